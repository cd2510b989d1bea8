import PyProof.Rows.All
import Wide.All
import OpenK.AllK
import Wide.FinOn
import HandS.ForMost
import HandS.Wide
import HandS.Exc
import KE.SortData
import KE.DataCmp
import KE.DataEq
import KE.DataFind
import KE.DataMinMax
import KE.DataAny
import KE.DataIsa
import KE.KIndexOf
import PyProof.ReprRoads
import HandS.TupAny
import HandS.ExcOwn
import HandS.WordsExc
import HandS.Style
import HandS.Walk
import KE.GoesEnum
import KE.GoesMore
import KE.GoesZip
import HandS.More
import HandS.SetFor
import HandS.Remove
import HandS.Words
import HandS.EndBits
import HandS.Conv
import KE.Datum
import KE.DatumOrd
import HandS.Star
import PySem.Challenge.RW_levelturns_k17_whole_signs_of_leagues_an
set_option Elab.async false
set_option linter.all false
set_option maxRecDepth 100000
set_option maxHeartbeats 4000000
/-! MP.1: data over the abstract heap with footprints, values with owned parts, the state of a def's body -/
namespace MP
open PySem PySem.Spec PyProof.Rows L2

/-! ## data without changeable parts -/
mutual
def im : PyData → Bool
  | .list _ => false
  | .dict _ => false
  | .tuple ds => ims ds
  | .none => true
  | .bool _ => true
  | .int _ => true
  | .str _ => true
def ims : List PyData → Bool
  | [] => true
  | d :: ds => im d && ims ds
end

/-! the script is told as a dict of its own, so no other thing is taken for it -/
mutual
def sc : PyData → Bool
  | .none | .bool _ | .int _ | .str _ => true
  | .list ds => scs ds
  | .tuple ds => scs ds
  | .dict ds => sck ds
def scs : List PyData → Bool
  | [] => true
  | d :: ds => sc d && scs ds
def sck : List (PyData × PyData) → Bool
  | [] => true
  | (k, d) :: ds => (match k with | .none => false | _ => true) && sc d && sck ds
end
def kD : Key → PyData
  | .inl i => .int i
  | .inr x => .str x

/-- a value of a body: data that is only read; a list, a dict of our own; a tuple with such parts; a shared list or dict; data lent of an own thing -/
inductive LV where
  | imm (d : PyData)
  | lst (xs : List LV)
  | dic (ks : List (Key × LV))
  | tup (xs : List LV)
  | ref (l : Nat)
  | lent (d : PyData)

/-- the script's list: not ours to change -/
def SqS (K : PySem.W.Frag) (H : Hp) (a : Addr) (xs : List V) : Prop :=
  (∃ o, H a = some (.frz o (.lst xs))) ∨
    ∃ (o : Obj) (its : Array Value) (n : Nat), K.lookup a = some o ∧ o.cls = .type "list" ∧ o.dict = none ∧ o.data = .seq its n ∧ its.size ≤ sizeLine ∧ Vals xs its.toList
theorem SqS.sql {K : PySem.W.Frag} {H : Hp} {a : Addr} {xs : List V} (h : SqS K H a xs) : SqL K H a xs := h.imp (fun h => .inr h) id
/-- an object with nothing but its data -/
def PlO (o : Obj) : Prop := o.dict = none ∧ o.slots = #[]
/-- a tuple, all of whose object is known: it has no dict -/
def SqN (K : PySem.W.Frag) (H : Hp) (a : Addr) (xs : List V) : Prop :=
  (∃ o, H a = some (.frz o (.tup xs)) ∧ PlO o) ∨
    ∃ (o : Obj) (its : Array Value) (n : Nat), K.lookup a = some o ∧ o.cls = .type "tuple" ∧ PlO o ∧ o.data = .seq its n ∧ its.size ≤ sizeLine ∧ Vals xs its.toList
theorem SqN.sqt {K : PySem.W.Frag} {H : Hp} {a : Addr} {xs : List V} (h : SqN K H a xs) : SqT K H a xs :=
  h.imp (fun ⟨o, h, _⟩ => .inr ⟨o, h⟩) fun ⟨o, its, n, h1, h2, _, h4⟩ => ⟨o, its, n, h1, h2, h4⟩
theorem SqN.new {K : PySem.W.Frag} {H : Hp} {a : Addr} {xs : List V} {o : Obj} (h : PlO o) : SqN K (upd H a (.frz o (.tup xs))) a xs := .inl ⟨o, upd_same, h⟩
/-! ## data at an address -/
mutual
inductive RD (K : PySem.W.Frag) (H : Hp) : V → PyData → List Addr → Prop
  | non : RD K H .non .none []
  | bl (b : Bool) : RD K H (.bl b) (.bool b) []
  | int (i : Int) : RD K H (.int i) (.int i) []
  | str (x : Str) : RD K H (.str x) (.str x) []
  | lst {a : Addr} {xs : List V} {ds : List PyData} {as : List Addr} : H a = some (.lst xs) → RDs K H xs ds as → RD K H (.ref a) (.list ds) (a :: as)
  | scr {a : Addr} {xs : List V} {ds : List PyData} {as : List Addr} : SqS K H a xs → RDs K H xs ds as → RD K H (.ref a) (.dict [(.none, .list ds)]) as
  | tup {a : Addr} {xs : List V} {ds : List PyData} {as : List Addr} : SqN K H a xs → RDs K H xs ds as → RD K H (.ref a) (.tuple ds) as
  | dic {a : Addr} {xs : List (Key × V)} {ds : List (PyData × PyData)} {as : List Addr} : H a = some (.dK xs) → RDk K H xs ds as → RD K H (.ref a) (.dict ds) (a :: as)
inductive RDs (K : PySem.W.Frag) (H : Hp) : List V → List PyData → List Addr → Prop
  | nil : RDs K H [] [] []
  | cons {v : V} {vs : List V} {d : PyData} {ds : List PyData} {as bs : List Addr} : RD K H v d as → RDs K H vs ds bs → RDs K H (v :: vs) (d :: ds) (as ++ bs)
inductive RDk (K : PySem.W.Frag) (H : Hp) : List (Key × V) → List (PyData × PyData) → List Addr → Prop
  | nil : RDk K H [] [] []
  | cons {k : Key} {v : V} {vs : List (Key × V)} {d : PyData} {ds : List (PyData × PyData)} {as bs : List Addr} : RD K H v d as → RDk K H vs ds bs → RDk K H ((k, v) :: vs) ((kD k, d) :: ds) (as ++ bs)
end

/-! ## values at an address: F tells which changeable things may be only read, m where the shared ones lie; the last list: what is owned -/
mutual
inductive Rp (K : PySem.W.Frag) (H : Hp) (m : List Addr) (F : Addr → Prop) : V → LV → List Addr → Prop
  | imm {v : V} {d : PyData} {as : List Addr} : RD K H v d as → (∀ a ∈ as, F a) → Rp K H m F v (.imm d) []
  | lent {v : V} {d : PyData} {as : List Addr} : RD K H v d as → Rp K H m F v (.lent d) []
  | lst {a : Addr} {vs : List V} {xs : List LV} {O : List Addr} : H a = some (.lst vs) → Rps K H m F vs xs O → Rp K H m F (.ref a) (.lst xs) (a :: O)
  | dic {a : Addr} {vs : List (Key × V)} {xs : List (Key × LV)} {O : List Addr} : H a = some (.dK vs) → Rpk K H m F vs xs O → Rp K H m F (.ref a) (.dic xs) (a :: O)
  | tup {a : Addr} {vs : List V} {xs : List LV} {O : List Addr} : SqN K H a vs → Rps K H m F vs xs O → Rp K H m F (.ref a) (.tup xs) O
  | ref {a : Addr} {l : Nat} : m[l]? = some a → Rp K H m F (.ref a) (.ref l) []
inductive Rps (K : PySem.W.Frag) (H : Hp) (m : List Addr) (F : Addr → Prop) : List V → List LV → List Addr → Prop
  | nil : Rps K H m F [] [] []
  | cons {v : V} {vs : List V} {x : LV} {xs : List LV} {O P : List Addr} : Rp K H m F v x O → Rps K H m F vs xs P → Rps K H m F (v :: vs) (x :: xs) (O ++ P)
inductive Rpk (K : PySem.W.Frag) (H : Hp) (m : List Addr) (F : Addr → Prop) : List (Key × V) → List (Key × LV) → List Addr → Prop
  | nil : Rpk K H m F [] [] []
  | cons {k : Key} {v : V} {vs : List (Key × V)} {x : LV} {xs : List (Key × LV)} {O P : List Addr} : Rp K H m F v x O → Rpk K H m F vs xs P → Rpk K H m F ((k, v) :: vs) ((k, x) :: xs) (O ++ P)
end

/-! ## what stays -/
/-- all that stood stays, but at W -/
def Pres (W : List Addr) (H H' : Hp) : Prop := ∀ b o, H b = some o → b ∉ W → H' b = some o
/-- only lists and dicts stand at W -/
def WM (W : List Addr) (H : Hp) : Prop := ∀ b ∈ W, (∃ xs, H b = some (.lst xs)) ∨ ∃ xs, H b = some (.dK xs)

theorem Pres.refl {W : List Addr} {H : Hp} : Pres W H H := fun _ _ e _ => e
theorem Pres.trans {W W' : List Addr} {H H1 H2 : Hp} (a : Pres W H H1) (b : Pres W' H1 H2) (h : ∀ x ∈ W', x ∈ W ∨ H x = none) : Pres W H H2 := fun x o e n =>
  b x o (a x o e n) fun z => (h x z).elim n fun q => by rw [e] at q; cases q
theorem Pres.mono {W W' : List Addr} {H H1 : Hp} (a : Pres W H H1) (h : ∀ x ∈ W, x ∈ W') : Pres W' H H1 := fun x o e n => a x o e fun z => n (h x z)
theorem Pres.dom {H H' : Hp} (p : Pres [] H H') : ∀ a, H a ≠ none → H' a ≠ none := fun a n z => by
  cases e : H a with
  | none => exact n e
  | some o => rw [p a o e fun z => nomatch z] at z; cases z
theorem Pres.new {H : Hp} {p : Addr} {o : HO} (h : H p = none) : Pres [] H (upd H p o) := fun b u e _ => by
  rw [upd_ne (ne_of_none e h)]; exact e
theorem Pres.upd {H : Hp} {p : Addr} {o : HO} : Pres [p] H (upd H p o) := fun b u e n => by
  rw [upd_ne fun z => n (by rw [z]; exact List.mem_cons_self)]; exact e

section
variable {K : PySem.W.Frag} {H H' : Hp} {W : List Addr}
theorem Rd.pres {a : Addr} {u : HO} (p : Pres W H H') (n : a ∉ W) (h : Rd H a u) : Rd H' a u := by
  rcases h with h | ⟨o, h⟩
  · exact .inl (p a _ h n)
  · exact .inr ⟨o, p a _ h n⟩
theorem notW_tup {a : Addr} {xs : List V} (wm : WM W H) (h : Rd H a (.tup xs)) : a ∉ W := fun z => by
  rcases wm a z with ⟨ys, e⟩ | ⟨ys, e⟩ <;> rcases h with h | ⟨o, h⟩ <;> rw [e] at h <;> cases h
theorem SqT.pres {a : Addr} {xs : List V} (p : Pres W H H') (wm : WM W H) (h : SqT K H a xs) : SqT K H' a xs := by
  rcases h with h | h
  · exact .inl (Rd.pres p (notW_tup wm h) h)
  · exact .inr h

theorem SqN.pres {a : Addr} {xs : List V} (p : Pres W H H') (wm : WM W H) (h : SqN K H a xs) : SqN K H' a xs := by
  rcases h with ⟨o, h, hd⟩ | h
  · exact .inl ⟨o, p a _ h (fun z => by rcases wm a z with ⟨ys, e⟩ | ⟨ys, e⟩ <;> (rw [e] at h; cases h)), hd⟩
  · exact .inr h
theorem SqS.pres {a : Addr} {xs : List V} (p : Pres W H H') (wm : WM W H) (h : SqS K H a xs) : SqS K H' a xs := by
  rcases h with ⟨o, h⟩ | h
  · exact .inl ⟨o, p a _ h fun z => by rcases wm a z with ⟨ys, e⟩ | ⟨ys, e⟩ <;> rw [e] at h <;> cases h⟩
  · exact .inr h
mutual
theorem RD.pres (p : Pres W H H') (wm : WM W H) : ∀ {d : PyData} {v : V} {as : List Addr}, RD K H v d as → (∀ a ∈ as, a ∉ W) → RD K H' v d as
  | .none, _, _, .non, _ => .non
  | .bool _, _, _, .bl b, _ => .bl b
  | .int _, _, _, .int i, _ => .int i
  | .str _, _, _, .str x, _ => .str x
  | .list ds, _, _, .lst h r, n => .lst (p _ _ h (n _ List.mem_cons_self)) (RDs.pres p wm r fun a z => n a (List.mem_cons_of_mem _ z))
  | .dict _, _, _, .scr h r, n => .scr (SqS.pres p wm h) (RDs.pres p wm r n)
  | .tuple ds, _, _, .tup h r, n => .tup (SqN.pres p wm h) (RDs.pres p wm r n)
  | .dict ds, _, _, .dic h r, n => .dic (p _ _ h (n _ List.mem_cons_self)) (RDk.pres p wm r fun a z => n a (List.mem_cons_of_mem _ z))
theorem RDs.pres (p : Pres W H H') (wm : WM W H) : ∀ {ds : List PyData} {vs : List V} {as : List Addr}, RDs K H vs ds as → (∀ a ∈ as, a ∉ W) → RDs K H' vs ds as
  | [], _, _, .nil, _ => .nil
  | _ :: _, _, _, .cons r t, n => .cons (RD.pres p wm r fun a z => n a (List.mem_append_left _ z)) (RDs.pres p wm t fun a z => n a (List.mem_append_right _ z))
theorem RDk.pres (p : Pres W H H') (wm : WM W H) : ∀ {ds : List (PyData × PyData)} {vs : List (Key × V)} {as : List Addr}, RDk K H vs ds as → (∀ a ∈ as, a ∉ W) → RDk K H' vs ds as
  | [], _, _, .nil, _ => .nil
  | _ :: _, _, _, .cons r t, n => .cons (RD.pres p wm r fun a z => n a (List.mem_append_left _ z)) (RDk.pres p wm t fun a z => n a (List.mem_append_right _ z))
end


mutual
theorem RD.dom : ∀ {d : PyData} {v : V} {as : List Addr}, RD K H v d as → ∀ a ∈ as, H a ≠ none
  | .none, _, _, .non, _, z => by cases z
  | .bool _, _, _, .bl b, _, z => by cases z
  | .int _, _, _, .int i, _, z => by cases z
  | .str _, _, _, .str x, _, z => by cases z
  | .list ds, _, _, .lst h r, a, z => by
    rcases List.mem_cons.mp z with e | z
    · subst e; rw [h]; exact fun q => nomatch q
    · exact RDs.dom r a z
  | .dict _, _, _, .scr h r, a, z => RDs.dom r a z
  | .tuple ds, _, _, .tup h r, a, z => RDs.dom r a z
  | .dict ds, _, _, .dic h r, a, z => by
    rcases List.mem_cons.mp z with e | z
    · subst e; rw [h]; exact fun q => nomatch q
    · exact RDk.dom r a z
theorem RDs.dom : ∀ {ds : List PyData} {vs : List V} {as : List Addr}, RDs K H vs ds as → ∀ a ∈ as, H a ≠ none
  | [], _, _, .nil, _, z => by cases z
  | _ :: _, _, _, .cons r t, a, z => (List.mem_append.mp z).elim (RD.dom r a) (RDs.dom t a)
theorem RDk.dom : ∀ {ds : List (PyData × PyData)} {vs : List (Key × V)} {as : List Addr}, RDk K H vs ds as → ∀ a ∈ as, H a ≠ none
  | [], _, _, .nil, _, z => by cases z
  | _ :: _, _, _, .cons r t, a, z => (List.mem_append.mp z).elim (RD.dom r a) (RDk.dom t a)
end


mutual
theorem RD.im : ∀ {d : PyData} {v : V} {as : List Addr}, RD K H v d as → MP.im d = true → as = []
  | .none, _, _, .non, _ => rfl
  | .bool _, _, _, .bl b, _ => rfl
  | .int _, _, _, .int i, _ => rfl
  | .str _, _, _, .str x, _ => rfl
  | .list ds, _, _, .lst h r, z => by simp [MP.im] at z
  | .tuple ds, _, _, .tup h r, z => RDs.im r (by simpa [MP.im] using z)
  | .dict ds, _, _, .dic h r, z => by simp [MP.im] at z
  | .dict _, _, _, .scr h r, z => by simp [MP.im] at z
theorem RDs.im : ∀ {ds : List PyData} {vs : List V} {as : List Addr}, RDs K H vs ds as → ims ds = true → as = []
  | [], _, _, .nil, _ => rfl
  | _ :: _, _, _, .cons r t, z => by
    simp [ims] at z
    rw [RD.im r z.1, RDs.im t z.2]; rfl
end

/-! ## owned values -/
variable {m m' : List Addr} {F F' : Addr → Prop}
mutual
theorem Rp.own : ∀ {x : LV} {v : V} {O : List Addr}, Rp K H m F v x O → ∀ a ∈ O, (∃ xs, H a = some (.lst xs)) ∨ ∃ xs, H a = some (.dK xs)
  | .imm _, _, _, .imm _ _, a, z => by cases z
  | .lent _, _, _, .lent _, a, z => by cases z
  | .ref _, _, _, .ref _, a, z => by cases z
  | .lst _, _, _, .lst h r, a, z => by
    rcases List.mem_cons.mp z with e | z
    · subst e; exact .inl ⟨_, h⟩
    · exact Rps.own r a z
  | .dic _, _, _, .dic h r, a, z => by
    rcases List.mem_cons.mp z with e | z
    · subst e; exact .inr ⟨_, h⟩
    · exact Rpk.own r a z
  | .tup _, _, _, .tup h r, a, z => Rps.own r a z
theorem Rps.own : ∀ {x : List LV} {v : List V} {O : List Addr}, Rps K H m F v x O → ∀ a ∈ O, (∃ xs, H a = some (.lst xs)) ∨ ∃ xs, H a = some (.dK xs)
  | [], _, _, .nil, a, z => by cases z
  | _ :: _, _, _, .cons r t, a, z => (List.mem_append.mp z).elim (Rp.own r a) (Rps.own t a)
theorem Rpk.own : ∀ {x : List (Key × LV)} {v : List (Key × V)} {O : List Addr}, Rpk K H m F v x O → ∀ a ∈ O, (∃ xs, H a = some (.lst xs)) ∨ ∃ xs, H a = some (.dK xs)
  | [], _, _, .nil, a, z => by cases z
  | _ :: _, _, _, .cons r t, a, z => (List.mem_append.mp z).elim (Rp.own r a) (Rpk.own t a)
end

/-! no lent part -/
mutual
def LV.nl : LV → Bool
  | .imm _ => true
  | .lst xs => LV.nls xs
  | .dic xs => LV.nlk xs
  | .tup xs => LV.nls xs
  | .ref _ => true
  | .lent _ => false
def LV.nls : List LV → Bool
  | [] => true
  | x :: xs => x.nl && LV.nls xs
def LV.nlk : List (Key × LV) → Bool
  | [] => true
  | (_, x) :: xs => x.nl && LV.nlk xs
end


mutual
theorem Rp.pres (p : Pres W H H') (wm : WM W H) (hm : ∀ (l : Nat) (a : Addr), m[l]? = some a → m'[l]? = some a) (hF : ∀ a, F a → H a ≠ none → F' a) (hW : ∀ a, F a → H a ≠ none → a ∉ W) :
    ∀ {x : LV} {v : V} {O : List Addr}, Rp K H m F v x O → (∀ a ∈ O, a ∉ W) → (W = [] ∨ x.nl = true) → Rp K H' m' F' v x O
  | .imm _, _, _, .imm r f, _, _ => .imm (RD.pres p wm r fun a z => hW a (f a z) (RD.dom r a z)) fun a z => hF a (f a z) (RD.dom r a z)
  | .lent _, _, _, .lent r, _, c => .lent (RD.pres p wm r fun a _ => by
      rcases c with c | c
      · rw [c]; exact List.not_mem_nil
      · simp [LV.nl] at c)
  | .ref _, _, _, .ref e, _, _ => .ref (hm _ _ e)
  | .lst _, _, _, .lst h r, n, c => .lst (p _ _ h (n _ List.mem_cons_self)) (Rps.pres p wm hm hF hW r (fun a z => n a (List.mem_cons_of_mem _ z)) (by simpa [LV.nl] using c))
  | .dic _, _, _, .dic h r, n, c => .dic (p _ _ h (n _ List.mem_cons_self)) (Rpk.pres p wm hm hF hW r (fun a z => n a (List.mem_cons_of_mem _ z)) (by simpa [LV.nl] using c))
  | .tup _, _, _, .tup h r, n, c => .tup (SqN.pres p wm h) (Rps.pres p wm hm hF hW r n (by simpa [LV.nl] using c))
theorem Rps.pres (p : Pres W H H') (wm : WM W H) (hm : ∀ (l : Nat) (a : Addr), m[l]? = some a → m'[l]? = some a) (hF : ∀ a, F a → H a ≠ none → F' a) (hW : ∀ a, F a → H a ≠ none → a ∉ W) :
    ∀ {x : List LV} {v : List V} {O : List Addr}, Rps K H m F v x O → (∀ a ∈ O, a ∉ W) → (W = [] ∨ LV.nls x = true) → Rps K H' m' F' v x O
  | [], _, _, .nil, _, _ => .nil
  | _ :: _, _, _, .cons r t, n, c => .cons (Rp.pres p wm hm hF hW r (fun a z => n a (List.mem_append_left _ z)) (c.imp id fun c => by simp [LV.nls] at c; exact c.1))
      (Rps.pres p wm hm hF hW t (fun a z => n a (List.mem_append_right _ z)) (c.imp id fun c => by simp [LV.nls] at c; exact c.2))
theorem Rpk.pres (p : Pres W H H') (wm : WM W H) (hm : ∀ (l : Nat) (a : Addr), m[l]? = some a → m'[l]? = some a) (hF : ∀ a, F a → H a ≠ none → F' a) (hW : ∀ a, F a → H a ≠ none → a ∉ W) :
    ∀ {x : List (Key × LV)} {v : List (Key × V)} {O : List Addr}, Rpk K H m F v x O → (∀ a ∈ O, a ∉ W) → (W = [] ∨ LV.nlk x = true) → Rpk K H' m' F' v x O
  | [], _, _, .nil, _, _ => .nil
  | _ :: _, _, _, .cons r t, n, c => .cons (Rp.pres p wm hm hF hW r (fun a z => n a (List.mem_append_left _ z)) (c.imp id fun c => by simp [LV.nlk] at c; exact c.1))
      (Rpk.pres p wm hm hF hW t (fun a z => n a (List.mem_append_right _ z)) (c.imp id fun c => by simp [LV.nlk] at c; exact c.2))
end
end

/-! ## the data that a value holds -/
mutual
def LV.dat0 : LV → Option PyData
  | .imm d => some d
  | .lent d => some d
  | .lst xs => (LV.dats0 xs).map PyData.list
  | .tup xs => (LV.dats0 xs).map PyData.tuple
  | .dic xs => (LV.datk0 xs).map PyData.dict
  | .ref _ => none
def LV.dats0 : List LV → Option (List PyData)
  | [] => some []
  | x :: xs => match x.dat0, LV.dats0 xs with
    | some d, some ds => some (d :: ds)
    | _, _ => none
def LV.datk0 : List (Key × LV) → Option (List (PyData × PyData))
  | [] => some []
  | (k, x) :: xs => match x.dat0, LV.datk0 xs with
    | some d, some ds => some ((kD k, d) :: ds)
    | _, _ => none
end
/-- shared things are looked up (one deep) -/
def LV.dat (ob : List LV) : LV → Option PyData
  | .ref l => match ob[l]? with
    | some x => x.dat0
    | none => none
  | x => x.dat0

section
variable {K : PySem.W.Frag} {H : Hp} {m : List Addr} {F : Addr → Prop}
mutual
theorem Rp.rd0 : ∀ {x : LV} {v : V} {O : List Addr} {d : PyData}, Rp K H m F v x O → x.dat0 = some d → ∃ as, RD K H v d as ∧ ∀ a ∈ as, F a ∨ a ∈ O ∨ x.nl = false
  | .imm _, _, _, _, .imm r f, e => by cases e; exact ⟨_, r, fun a z => .inl (f a z)⟩
  | .lent _, _, _, _, .lent r, e => by cases e; exact ⟨_, r, fun a z => .inr (.inr rfl)⟩
  | .ref _, _, _, _, .ref _, e => by simp [LV.dat0] at e
  | .lst _, _, _, _, .lst h r, e => by
    obtain ⟨ds, e1, e2⟩ := Option.map_eq_some_iff.mp e
    obtain ⟨as, q, f⟩ := Rps.rd0 r e1
    subst e2
    refine ⟨_, .lst h q, fun a z => ?_⟩
    rcases List.mem_cons.mp z with z | z
    · exact .inr (.inl (z ▸ List.mem_cons_self))
    · exact (f a z).imp id fun w => w.imp (List.mem_cons_of_mem _) id
  | .dic _, _, _, _, .dic h r, e => by
    obtain ⟨ds, e1, e2⟩ := Option.map_eq_some_iff.mp e
    obtain ⟨as, q, f⟩ := Rpk.rd0 r e1
    subst e2
    refine ⟨_, .dic h q, fun a z => ?_⟩
    rcases List.mem_cons.mp z with z | z
    · exact .inr (.inl (z ▸ List.mem_cons_self))
    · exact (f a z).imp id fun w => w.imp (List.mem_cons_of_mem _) id
  | .tup _, _, _, _, .tup h r, e => by
    obtain ⟨ds, e1, e2⟩ := Option.map_eq_some_iff.mp e
    obtain ⟨as, q, f⟩ := Rps.rd0 r e1
    subst e2
    exact ⟨_, .tup h q, f⟩
theorem Rps.rd0 : ∀ {x : List LV} {v : List V} {O : List Addr} {d : List PyData}, Rps K H m F v x O → LV.dats0 x = some d → ∃ as, RDs K H v d as ∧ ∀ a ∈ as, F a ∨ a ∈ O ∨ LV.nls x = false
  | [], _, _, _, .nil, e => by cases e; exact ⟨_, .nil, fun a z => by cases z⟩
  | x :: xs, _, _, _, .cons r t, e => by
    unfold LV.dats0 at e
    split at e
    · rename_i d ds e1 e2
      cases e
      obtain ⟨as, q, f⟩ := Rp.rd0 r e1
      obtain ⟨bs, q', f'⟩ := Rps.rd0 t e2
      refine ⟨_, .cons q q', fun a z => ?_⟩
      rcases List.mem_append.mp z with z | z
      · refine (f a z).imp id fun w => w.imp (List.mem_append_left _) fun w => ?_
        simp [LV.nls, w]
      · refine (f' a z).imp id fun w => w.imp (List.mem_append_right _) fun w => ?_
        simp [LV.nls, w]
    · cases e
theorem Rpk.rd0 : ∀ {x : List (Key × LV)} {v : List (Key × V)} {O : List Addr} {d : List (PyData × PyData)}, Rpk K H m F v x O → LV.datk0 x = some d → ∃ as, RDk K H v d as ∧ ∀ a ∈ as, F a ∨ a ∈ O ∨ LV.nlk x = false
  | [], _, _, _, .nil, e => by cases e; exact ⟨_, .nil, fun a z => by cases z⟩
  | (k, x) :: xs, _, _, _, .cons r t, e => by
    unfold LV.datk0 at e
    split at e
    · rename_i d ds e1 e2
      cases e
      obtain ⟨as, q, f⟩ := Rp.rd0 r e1
      obtain ⟨bs, q', f'⟩ := Rpk.rd0 t e2
      refine ⟨_, .cons q q', fun a z => ?_⟩
      rcases List.mem_append.mp z with z | z
      · refine (f a z).imp id fun w => w.imp (List.mem_append_left _) fun w => ?_
        simp [LV.nlk, w]
      · refine (f' a z).imp id fun w => w.imp (List.mem_append_right _) fun w => ?_
        simp [LV.nlk, w]
    · cases e
end
end

/-! ## the state of a body -/
structure LS where
  sl : List (Option LV)
  ob : List LV

inductive RpS (K : PySem.W.Frag) (H : Hp) (m : List Addr) (F : Addr → Prop) : L2.St → List (Option LV) → List Addr → Prop
  | nil : RpS K H m F [] [] []
  | no {v : Option V} {vs : L2.St} {xs : List (Option LV)} {O : List Addr} : RpS K H m F vs xs O → RpS K H m F (v :: vs) (none :: xs) O
  | so {v : V} {vs : L2.St} {x : LV} {xs : List (Option LV)} {O P : List Addr} : Rp K H m F v x O → RpS K H m F vs xs P → RpS K H m F (some v :: vs) (some x :: xs) (O ++ P)

/-- what may be read and stays: not among O, not reserved -/
def Fz (R : Addr → Prop) (O : List Addr) : Addr → Prop := fun a => a ∉ O ∧ ¬ R a
/-- more is reserved -/
def Rv (R : Addr → Prop) (O : List Addr) : Addr → Prop := fun a => R a ∨ a ∈ O

structure LI (K : PySem.W.Frag) (H : Hp) (R : Addr → Prop) (vs : L2.St) (s : LS) (m : List Addr) (O1 O2 : List Addr) : Prop where
  sl : RpS K H m (Fz R (O1 ++ O2)) vs s.sl O1
  ob : Rps K H m (Fz R (O1 ++ O2)) (m.map V.ref) s.ob O2
  nd : (O1 ++ O2).Nodup
  nr : ∀ a ∈ O1 ++ O2, ¬ R a
  rs : ∀ a, R a → H a ≠ none

section
variable {K : PySem.W.Frag} {H H' : Hp} {m m' : List Addr} {F F' : Addr → Prop} {W : List Addr}
theorem RpS.own {x : List (Option LV)} {v : L2.St} {O : List Addr} (r : RpS K H m F v x O) : ∀ a ∈ O, (∃ xs, H a = some (.lst xs)) ∨ ∃ xs, H a = some (.dK xs) := by
  induction r with
  | nil => exact fun a z => nomatch z
  | no _ ih => exact ih
  | so h _ ih => exact fun a z => (List.mem_append.mp z).elim (h.own a) (ih a)
theorem RpS.length {x : List (Option LV)} {v : L2.St} {O : List Addr} (r : RpS K H m F v x O) : v.length = x.length := by
  induction r with
  | nil => rfl
  | no _ ih => simp [ih]
  | so _ _ ih => simp [ih]
/-- slots hold nothing lent -/
def nlS : List (Option LV) → Bool
  | [] => true
  | none :: xs => nlS xs
  | some x :: xs => x.nl && nlS xs
theorem RpS.pres (p : Pres W H H') (wm : WM W H) (hm : ∀ (l : Nat) (a : Addr), m[l]? = some a → m'[l]? = some a) (hF : ∀ a, F a → H a ≠ none → F' a) (hW : ∀ a, F a → H a ≠ none → a ∉ W)
    {x : List (Option LV)} {v : L2.St} {O : List Addr} (r : RpS K H m F v x O) : (∀ a ∈ O, a ∉ W) → (W = [] ∨ nlS x = true) → RpS K H' m' F' v x O := by
  induction r with
  | nil => exact fun _ _ => .nil
  | no _ ih => exact fun n c => .no (ih n (by simpa [nlS] using c))
  | so h _ ih =>
    intro n c
    refine .so (h.pres p wm hm hF hW (fun a z => n a (List.mem_append_left _ z)) ?_) (ih (fun a z => n a (List.mem_append_right _ z)) ?_)
    · exact c.imp id fun c => by
        simp [nlS] at c
        exact c.1
    · exact c.imp id fun c => by
        simp [nlS] at c
        exact c.2
theorem RpS.get {x : List (Option LV)} {v : L2.St} {O : List Addr} (r : RpS K H m F v x O) : ∀ {i : Nat} {y : LV}, x[i]? = some (some y) → ∃ u P, v[i]? = some (some u) ∧ Rp K H m F u y P ∧ ∀ a ∈ P, a ∈ O := by
  induction r with
  | nil => intro i y e; simp at e
  | no _ ih =>
    intro i y e
    cases i with
    | zero => simp at e
    | succ i => simpa using ih (i := i) (y := y) (by simpa using e)
  | so h _ ih =>
    intro i y e
    cases i with
    | zero =>
      cases Option.some.inj (Option.some.inj e)
      exact ⟨_, _, rfl, h, fun a z => List.mem_append_left _ z⟩
    | succ i =>
      obtain ⟨u, P, h1, h2, h3⟩ := ih (i := i) (y := y) (by simpa using e)
      exact ⟨u, P, by simpa using h1, h2, fun a z => List.mem_append_right _ (h3 a z)⟩
end
end MP
/-! MP.2: a small Python over data, evaluated -/
namespace MP
open PySem PySem.Spec PyProof.Rows L2

/-- a target: a name's slot, a tuple of targets -/
inductive Tg where
  | nm (i : Nat) | nil | cons (a b : Tg) | tp (l : Tg)

inductive BI where
  | len | int | tuple | list | sorted | sum | abs | all | repr | min | max | isInt | isBool | isTuple | isStr | str
  deriving DecidableEq
inductive MT where
  | index | count | join
  deriving DecidableEq
inductive MO where
  | append | extend | insert | remove | pop
  deriving DecidableEq

/-- expressions (also lists of them, and what is walked) -/
inductive ME where
  | nil | cons (a b : ME)
  | c (d : PyData) | g (x : Str) (d : PyData) | v (i : Nat) | io (i : Nat)
  | tup (as : ME) | lst (as : ME) | star (a : ME)
  | dk (ks : List Str) (as : ME)
  | bin (op : Operator) (a b : ME) | neg (a : ME)
  | cmp (op : CmpOp) (a b : ME) | chain (o1 o2 : CmpOp) (a b c : ME)
  | and (a b : ME) | or (a b : ME) | not (a : ME) | ite (c a b : ME)
  | ix (a b : ME) | sl (a lo hi : ME) | no
  | call (f : Nat) (as : ME)
  | callk (f : Nat) (ns : List Str) (as : ME)
  | bi (x : BI) (as : ME)
  | mt (x : MT) (o as : ME)
  | mut (op : MO) (i : Nat) (path as : ME)
  | rd (i : Nat) (path : ME)
  | frz (a : ME)
  | lc (own : List Nat) (elt : ME) (tg : Tg) (it cond : ME)
  | lc2 (own own2 : List Nat) (elt : ME) (tg : Tg) (it cond : ME) (tg2 : Tg) (it2 cond2 : ME)
  | rng (as : ME) | enum (a : ME) | zip (a b : ME) | items (a : ME) | comb (a : ME)

inductive MS where
  | nil | cons (s r : MS)
  | asg (t : Tg) (e : ME)
  | par (is : List Nat) (as : ME)
  | setix (i : Nat) (path k e : ME)
  | ife (c : ME) (a b : MS)
  | for (tg : Tg) (it : ME) (body : MS)
  | whl (c : ME) (body : MS)
  | ret (e : ME) | retN | ex (e : ME) | brk | cnt | pass
  | freeze (i : Nat) | share (i : Nat) (k : Key)

/-! ## results -/
inductive Res (α : Type) where
  | ok (a : α) | exc (c : Nat) (ps : List PyData) (s : LS) | stuck
def Res.bind {α β : Type} (r : Res α) (f : α → Res β) : Res β := match r with
  | .ok a => f a
  | .exc c ps s => .exc c ps s
  | .stuck => .stuck
/-- what a statement leads to -/
inductive SR where
  | nxt (s : LS) | ret (x : LV) (s : LS) | brk (s : LS) | cnt (s : LS) | exc (c : Nat) (ps : List PyData) (s : LS) | stuck
/-- what a call leads to: the value, and what the changeable arguments have become -/
inductive CRes where
  | ok (x : LV) (outs : List LV) | exc (c : Nat) (ps : List PyData) (outs : List LV) | stuck

/-! ## operations on data -/
/-- data; a new list of data -/
inductive RK where
  | dat (d : PyData) | nl (ds : List PyData)
def mkLent (d : PyData) : LV := if im d then .imm d else .lent d
def mkImm (len : Bool) (d : PyData) : LV := if len then mkLent d else .imm d
def RK.lv (len : Bool) : RK → LV
  | .dat d => mkImm len d
  | .nl ds => .lst (ds.map (mkImm len))
/-- what is made of parts of it may lie in an own thing -/
def LV.lh : LV → Bool
  | .ref _ => true
  | x => !x.nl

def okD (d : PyData) : Bool := d.plain && decide (d.depth ≤ 40)
def cutD {α : Type} (xs : List α) (lo hi : Option Int) : List α := (xs.drop (HT.sIx xs.length 0 lo)).take (HT.sIx xs.length xs.length hi - HT.sIx xs.length 0 lo)
def mulOk (i j : Int) : Bool := decide (i.natAbs.log2 + j.natAbs.log2 < 100000000)

def bopD : Operator → PyData → PyData → Option RK
  | .Add, .int i, .int j => some (.dat (.int (i + j)))
  | .Add, .list xs, .list ys => if xs.length + ys.length ≤ sizeLine then some (.nl (xs ++ ys)) else none
  | .Add, .tuple xs, .tuple ys => if xs.length + ys.length ≤ sizeLine then some (.dat (.tuple (xs ++ ys))) else none
  | .Add, .str x, .str y => if x.length + y.length ≤ sizeLine then some (.dat (.str (x ++ y))) else none
  | .Sub, .int i, .int j => some (.dat (.int (i - j)))
  | .Mult, .int i, .int j => if mulOk i j then some (.dat (.int (i * j))) else none
  | .Mult, .list xs, .int k => if decide (-(2 ^ 63) ≤ k ∧ k < 2 ^ 63 ∧ xs.length * k.toNat ≤ sizeLine) then some (.nl (List.replicate k.toNat xs).flatten) else none
  | .FloorDiv, .int i, .int j => if decide (0 < j ∧ j.natAbs.log2 < 9000) then some (.dat (.int (i / j))) else none
  | .Mod, .int i, .int j => if decide (0 < j) then some (.dat (.int (i % j))) else none
  | .Pow, .int i, .int j => if decide (0 ≤ j ∧ j ≤ 1000000 ∧ i.natAbs < 2 ^ 64) then some (.dat (.int (i ^ j.toNat))) else none
  | _, _, _ => none
def keyOf : PyData → Option Key
  | .int i => some (.inl i)
  | .str x => some (.inr x)
  | _ => none
/-- what a dict holds at a key -/
def lookD : List (PyData × PyData) → Key → Option PyData
  | [], _ => none
  | (.int i, v) :: r, .inl j => if i = j then some v else lookD r (.inl j)
  | (.str x, v) :: r, .inr y => if x = y then some v else lookD r (.inr y)
  | _ :: r, k => lookD r k
def inD (d : PyData) : PyData → Option Bool
  | .list xs => if okD d && okD (.list xs) then some (xs.any fun y => PyData.eqv y d) else none
  | .tuple xs => if okD d && okD (.tuple xs) then some (xs.any fun y => PyData.eqv y d) else none
  | .dict kvs => if sck kvs then (keyOf d).map fun k => (lookD kvs k).isSome else none
  | _ => none
def nnD : PyData → Bool
  | .none => false
  | _ => true
def ltD (d e : PyData) (r : Bool) : Option Bool := if PySem.W.alike d e && okD d && okD e && nnD d then some r else none
def cmpD : CmpOp → PyData → PyData → Option Bool
  | .Eq, d, e => if okD d && okD e then some (PyData.eqv d e) else none
  | .NotEq, d, e => if okD d && okD e then some (!PyData.eqv d e) else none
  | .Lt, d, e => ltD d e (PySem.W.dataLt d e)
  | .LtE, d, e => ltD d e (!PySem.W.dataLt e d)
  | .Gt, d, e => ltD d e (PySem.W.dataLt e d)
  | .GtE, d, e => ltD d e (!PySem.W.dataLt d e)
  | .Is, d, .none => some (match d with | .none => true | _ => false)
  | .IsNot, d, .none => some (match d with | .none => false | _ => true)
  | .In, d, e => inD d e
  | .NotIn, d, e => (inD d e).map (!·)
  | _, _, _ => none
def ixD : PyData → PyData → Option PyData
  | .list xs, .int i => atI xs i
  | .tuple xs, .int i => atI xs i
  | .str z, .int i => if z.length ≤ sizeLine then (atI z.cps.toList i).map fun c => .str ⟨#[c]⟩ else none
  | .dict kvs, d => match keyOf d with
    | some k => lookD kvs k
    | none => none
  | _, _ => none
def ixK (d e : PyData) : Option RK := (ixD d e).map .dat
def cmpK (op : CmpOp) (d e : PyData) : Option RK := (cmpD op d e).map fun b => .dat (.bool b)
def optI : Option PyData → Option (Option Int)
  | none => some none
  | some (.int i) => some (some i)
  | _ => none
def slD (d : PyData) (lo hi : Option Int) : Option RK := match d with
  | .list xs => some (.nl (cutD xs lo hi))
  | .tuple xs => some (.dat (.tuple (cutD xs lo hi)))
  | .dict [(.none, .list xs)] => some (.nl (cutD xs lo hi))
  | _ => none
def asInts : List PyData → Option (List Int)
  | [] => some []
  | .int i :: r => (asInts r).map (i :: ·)
  | _ :: _ => none
def asBools : List PyData → Option (List Bool)
  | [] => some []
  | .bool i :: r => (asBools r).map (i :: ·)
  | _ :: _ => none
def asStrs : List PyData → Option (List Str)
  | [] => some []
  | .str i :: r => (asStrs r).map (i :: ·)
  | _ :: _ => none
def alikeTo (d : PyData) (ds : List PyData) : Bool := ds.all fun e => PySem.W.alike d e
/-- items that can be sorted -/
def neTup : PyData → Bool
  | .tuple (_ :: _) => true
  | _ => false
def noTup : PyData → Bool
  | .tuple _ => false
  | .none => false
  | _ => true
def sortable (ds : List PyData) : Bool := ds.all okD && (ds.all fun d => ds.all fun e => PySem.W.alike d e) && (ds.all neTup || ds.all noTup)
def sortD (ds : List PyData) : List PyData := ds.mergeSort (PySem.W.dataLe false id)
def itemsD : PyData → Option (List PyData)
  | .list xs => some xs
  | .tuple xs => some xs
  | _ => none
def biD : BI → List PyData → Option RK
  | .len, [.list xs] => some (.dat (.int xs.length))
  | .len, [.tuple xs] => some (.dat (.int xs.length))
  | .len, [.str x] => if x.length ≤ sizeLine then some (.dat (.int x.length)) else none
  | .len, [.dict [(.none, .list xs)]] => some (.dat (.int xs.length))
  | .int, [.int i] => some (.dat (.int i))
  | .int, [.bool b] => some (.dat (.int (if b then 1 else 0)))
  | .tuple, [.list xs] => some (.dat (.tuple xs))
  | .tuple, [.tuple xs] => some (.dat (.tuple xs))
  | .list, [.list xs] => some (.nl xs)
  | .list, [.tuple xs] => some (.nl xs)
  | .abs, [.int i] => some (.dat (.int i.natAbs))
  | .sum, [.list xs] => (asInts xs).map fun ns => .dat (.int ns.sum)
  | .all, [.list xs] => (asBools xs).map fun bs => .dat (.bool (bs.all id))
  | .sorted, [.list xs] => if sortable xs && decide (xs.length ≤ sizeLine) then some (.nl (sortD xs)) else none
  | .sorted, [.tuple xs] => if sortable xs && decide (xs.length ≤ sizeLine) then some (.nl (sortD xs)) else none
  | .repr, [d] => if d.showable && decide (d.depth ≤ 40) && decide (d.shown.length ≤ sizeLine) && d.plain then some (.dat (.str d.shown)) else none
  | _, _ => none
def mtD : MT → PyData → List PyData → Option RK
  | _, _, _ => none

/-! ## parts of values -/
def LV.parts : LV → Option (List LV)
  | .imm (.tuple ds) => some (ds.map LV.imm)
  | .lent (.tuple ds) => some (ds.map mkLent)
  | .tup xs => some xs
  | _ => none
mutual
def bindT : Tg → LV → List (Option LV) → Option (List (Option LV))
  | .nm i, x, sl => if i < sl.length then some (sl.set i (some x)) else none
  | .tp l, x, sl => match x.parts with
    | some xs => bindL l xs sl
    | none => none
  | _, _, _ => none
def bindL : Tg → List LV → List (Option LV) → Option (List (Option LV))
  | .nil, [], sl => some sl
  | .cons a b, x :: xs, sl => match bindT a x sl with
    | some sl' => bindL b xs sl'
    | none => none
  | _, _, _ => none
end
def wipeL (sl : List (Option LV)) : List Nat → List (Option LV)
  | [] => sl
  | i :: is => (wipeL sl is).set i none
/-- behind a comprehension its own names stand as ahead -/
def backL (old sl : List (Option LV)) : List Nat → List (Option LV)
  | [] => sl
  | i :: is => (backL old sl is).set i ((old[i]?).getD none)
def cleanL (sl : List (Option LV)) (own : List Nat) : Bool := own.all fun i => match sl[i]? with
  | some none => true
  | some (some (.imm _)) => true
  | _ => false

def readV (ob : List LV) : LV → Option LV
  | .imm d => some (.imm d)
  | .lent d => some (.lent d)
  | .ref l => some (.ref l)
  | x => (x.dat ob).map mkLent
/-- a display's tuple -/
def mkTup (xs : List LV) : LV := match allImm xs with
  | some ds => .imm (.tuple ds)
  | none => .tup xs
where allImm : List LV → Option (List PyData)
  | [] => some []
  | .imm d :: r => (allImm r).map (d :: ·)
  | _ :: _ => none
/-- the imm parts have nothing changeable -/
def LV.hm : LV → Bool
  | .imm d => im d
  | .lst xs => hms xs
  | .tup xs => hms xs
  | .dic ks => hmk ks
  | .ref _ => false
  | .lent _ => false
where
  hms : List LV → Bool
    | [] => true
    | x :: xs => x.hm && hms xs
  hmk : List (Key × LV) → Bool
    | [] => true
    | (_, x) :: xs => x.hm && hmk xs

/-- a walk of several turns of a comprehension -/
def compL (own : List Nat) (tg : Tg) (step : LS → Res (List LV × LS)) : List LV → LS → Res (List LV × LS)
  | [], s => .ok ([], s)
  | x :: xs, s => match bindT tg x (wipeL s.sl own) with
    | none => .stuck
    | some sl' => (step ⟨sl', s.ob⟩).bind fun p => (compL own tg step xs p.2).bind fun q => .ok (p.1 ++ q.1, q.2)
def forL (tg : Tg) (body : LS → SR) : List LV → LS → SR
  | [], s => .nxt s
  | x :: xs, s => match bindT tg x s.sl with
    | none => .stuck
    | some sl' => match body ⟨sl', s.ob⟩ with
      | .nxt s' => forL tg body xs s'
      | .cnt s' => forL tg body xs s'
      | .brk s' => .nxt s'
      | .ret x s' => .ret x s'
      | .exc c ps s' => .exc c ps s'
      | .stuck => .stuck
def whlL (c : LS → Res (Bool × LS)) (body : LS → SR) : Nat → LS → SR
  | 0, _ => .stuck
  | n + 1, s => match c s with
    | .ok (true, s1) => match body s1 with
      | .nxt s' => whlL c body n s'
      | .cnt s' => whlL c body n s'
      | .brk s' => .nxt s'
      | .ret x s' => .ret x s'
      | .exc c ps s' => .exc c ps s'
      | .stuck => .stuck
    | .ok (false, s1) => .nxt s1
    | .exc c ps s' => .exc c ps s'
    | .stuck => .stuck

/-! ## effects -/
def ME.isNil : ME → Bool
  | .nil => true
  | _ => false
def ME.isOne : ME → Bool
  | .cons _ .nil => true
  | _ => false
def eff : ME → Bool
  | .io _ => true
  | .mut _ _ _ _ => true
  | .rd _ p => eff p
  | .frz a => eff a
  | .cons a b => eff a || eff b
  | .tup a | .lst a | .star a | .neg a | .not a | .rng a | .enum a | .items a | .comb a => eff a
  | .dk _ a => eff a
  | .bin _ a b | .cmp _ a b | .and a b | .or a b | .ix a b | .zip a b => eff a || eff b
  | .chain _ _ a b c | .ite a b c | .sl a b c => eff a || eff b || eff c
  | .call _ a | .callk _ _ a | .bi _ a => eff a
  | .mt _ a b => eff a || eff b
  | .lc _ e _ i c => eff e || eff i || eff c
  | .lc2 _ _ e _ i c _ i2 c2 => eff e || eff i || eff c || eff i2 || eff c2
  | .nil | .c _ | .g _ _ | .v _ | .no => false
end MP
namespace MP
open PySem PySem.Spec PyProof.Rows L2

/-! ## paths to own things -/
def lookK {β : Type} : List (Key × β) → Key → Option β
  | [], _ => none
  | (k', v) :: r, k => if k' = k then some v else lookK r k
def setK {β : Type} : List (Key × β) → Key → β → List (Key × β)
  | [], k, v => [(k, v)]
  | (k', v') :: r, k, v => if k' = k then (k', v) :: r else (k', v') :: setK r k v
/-- a step: a place of a list, a key of a dict -/
def stepL : LV → PyData → Option LV
  | .lst xs, .int i => atI xs i
  | .dic ks, d => match keyOf d with
    | some k => lookK ks k
    | none => none
  | _, _ => none
def putL : LV → PyData → LV → Option LV
  | .lst xs, .int i, x => (ixN xs.length i).map fun j => .lst (xs.set j x)
  | .dic ks, d, x => (keyOf d).map fun k => .dic (setK ks k x)
  | _, _, _ => none
/-- the first shared thing on the path, and the rest -/
def splitP : LV → List PyData → Option (Nat × List PyData)
  | .ref l, ds => some (l, ds)
  | x, d :: ds => match stepL x d with
    | some c => splitP c ds
    | none => none
  | _, [] => none
def getP : LV → List PyData → Option LV
  | x, [] => some x
  | x, d :: ds => match stepL x d with
    | some c => getP c ds
    | none => none
def putP : LV → List PyData → LV → Option LV
  | _, [], z => some z
  | x, d :: ds, z => match stepL x d with
    | some c => match putP c ds z with
      | some c' => putL x d c'
      | none => none
    | none => none
/-- the thing at the path from slot i -/
def getF (s : LS) (i : Nat) (path : List PyData) : Option LV := match s.sl[i]? with
  | some (some x) => match splitP x path with
    | some (l, rest) => match s.ob[l]? with
      | some y => getP y rest
      | none => none
    | none => getP x path
  | _ => none
/-- the state with another one there -/
def putF (s : LS) (i : Nat) (path : List PyData) (z : LV) : Option LS := match s.sl[i]? with
  | some (some x) => match splitP x path with
    | some (l, rest) => match s.ob[l]? with
      | some y => (putP y rest z).map fun y' => ⟨s.sl, s.ob.set l y'⟩
      | none => none
    | none => (putP x path z).map fun x' => ⟨s.sl.set i (some x'), s.ob⟩
  | _ => none

def allInts : List LV → Option (List Int)
  | [] => some []
  | .imm (.int i) :: r => (allInts r).map (i :: ·)
  | _ :: _ => none
/-- a change of an own thing: what it becomes, what is handed back -/
def mutG : MO → LV → List LV → Option (LV × LV)
  | .append, .lst xs, [y] => if xs.length < sizeLine then some (.lst (xs ++ [y]), .imm .none) else none
  | .extend, .lst xs, [.lst ys] => if xs.length + ys.length ≤ sizeLine then some (.lst (xs ++ ys), .imm .none) else none
  | .extend, .lst xs, [.imm (.list ds)] => if xs.length + ds.length ≤ sizeLine then some (.lst (xs ++ ds.map .imm), .imm .none) else none
  | .extend, .lst xs, [.imm (.tuple ds)] => if xs.length + ds.length ≤ sizeLine then some (.lst (xs ++ ds.map .imm), .imm .none) else none
  | .insert, .lst xs, [.imm (.int i), y] => if decide (xs.length < sizeLine ∧ 0 ≤ i ∧ i < 2 ^ 63) then some (.lst (xs.take i.toNat ++ [y] ++ xs.drop i.toNat), .imm .none) else none
  | .remove, .lst xs, [.imm (.int k)] => match allInts xs with
    | some ns => if k ∈ ns then some (.lst ((ns.erase k).map fun n => .imm (.int n)), .imm .none) else none
    | none => none
  | .pop, .lst xs, [] => match xs[xs.length - 1]? with
    | some y => some (.lst xs.dropLast, y)
    | none => none
  | .pop, .lst xs, [.imm (.int i)] => if decide (-(2 ^ 63) ≤ i ∧ i < 2 ^ 63) then match ixN xs.length i with
      | some j => match xs[j]? with
        | some y => some (.lst (xs.eraseIdx j), y)
        | none => none
      | none => none
    else none
  | _, _, _ => none
/-- o[d] = x -/
def putZ : LV → PyData → LV → Option LV
  | .lst xs, .int i, x => (ixN xs.length i).map fun j => .lst (xs.set j x)
  | .dic ks, d, x => match keyOf d with
    | some k => if ks.length < sizeLine ∧ (ks.filter fun p => decide (p.1 = k)).length ≤ 1 then some (.dic (setK ks k x)) else none
    | none => none
  | _, _, _ => none

/-! ## evaluation -/
def rangeD (i j : Int) : List PyData := (List.range (j - i).toNat).map fun (k : Nat) => PyData.int (i + (k : Int))
def enumD : Nat → List PyData → List PyData
  | _, [] => []
  | n, d :: ds => .tuple [.int n, d] :: enumD (n + 1) ds
def zipD : List PyData → List PyData → List PyData
  | d :: ds, e :: es => .tuple [d, e] :: zipD ds es
  | _, _ => []
def small62 (i : Int) : Bool := decide (-(2 ^ 62) ≤ i ∧ i < 2 ^ 62)
def datsOf (ob : List LV) : List LV → Option (List PyData)
  | [] => some []
  | x :: xs => match x.dat ob, datsOf ob xs with
    | some d, some ds => some (d :: ds)
    | _, _ => none
def lhs (xs : List LV) : Bool := xs.any LV.lh
def nlAll (xs : List LV) : Bool := xs.all LV.nl
/-- an argument of a call: data, or a slot handed over -/
inductive AV where
  | dat (x : LV) | slot (i : Nat)
/-- what may be handed over: own, nothing shared or lent within -/
def LV.giv : LV → Bool
  | .lst xs => givs xs
  | .dic ks => givk ks
  | _ => false
where
  giv1 : LV → Bool
    | .imm _ => true
    | .lst xs => givs xs
    | .dic ks => givk ks
    | .tup xs => givs xs
    | .ref _ => false
    | .lent _ => false
  givs : List LV → Bool
    | [] => true
    | x :: xs => giv1 x && givs xs
  givk : List (Key × LV) → Bool
    | [] => true
    | (_, x) :: xs => giv1 x && givk xs
def slotsOf : List AV → List Nat
  | [] => []
  | .slot i :: r => i :: slotsOf r
  | .dat _ :: r => slotsOf r
def dataOf : List AV → List LV
  | [] => []
  | .slot _ :: r => dataOf r
  | .dat x :: r => x :: dataOf r
def argsOf (s : LS) : List AV → Option (List LV)
  | [] => some []
  | .dat x :: r => match x.dat s.ob, argsOf s r with
    | some d, some ds => some (.imm d :: ds)
    | _, _ => none
  | .slot i :: r => match s.sl[i]?, argsOf s r with
    | some (some x), some ds => if x.giv then some (x :: ds) else none
    | _, _ => none
def setOuts : List Nat → List LV → List (Option LV) → Option (List (Option LV))
  | [], [], sl => some sl
  | i :: is, x :: xs, sl => setOuts is xs (sl.set i (some x))
  | _, _, _ => none
def distinct : List Nat → Bool
  | [] => true
  | i :: is => !is.contains i && distinct is
abbrev CF := Nat → List LV → CRes
def callE (cf : CF) (f : Nat) (as : List AV) (s : LS) : Res (LV × LS) :=
  match argsOf s as with
  | none => .stuck
  | some xs => if distinct (slotsOf as) = true ∧ (lhs (dataOf as) = true → slotsOf as = []) then
      match cf f xs with
      | .ok r outs => if (lhs (dataOf as) = true ∧ r.hm = false) ∨ r.nl = false ∨ nlAll outs = false then .stuck else
        match setOuts (slotsOf as) outs (wipeL s.sl (slotsOf as)) with
        | some sl' => .ok (r, ⟨sl', s.ob⟩)
        | none => .stuck
      | .exc c ps outs => if nlAll outs = false ∨ (lhs (dataOf as) = true ∧ ims ps = false) then .stuck else match setOuts (slotsOf as) outs (wipeL s.sl (slotsOf as)) with
        | some sl' => .exc c ps ⟨sl', s.ob⟩
        | none => .stuck
      | .stuck => .stuck
    else .stuck
def boolOf : LV → Option Bool
  | .imm (.bool b) => some b
  | _ => none
def tstR (r : Res (LV × LS)) : Res (Bool × LS) := r.bind fun p => match boolOf p.1 with
  | some b => .ok (b, p.2)
  | none => .stuck
/-- one value, a list's values laid out -/
def starItems (x : LV) : Option (List LV) := match x with
  | .imm (.list ds) => some (ds.map .imm)
  | .imm (.tuple ds) => some (ds.map .imm)
  | .lst xs => some xs
  | .lent (.list ds) => some (ds.map mkLent)
  | .lent (.tuple ds) => some (ds.map mkLent)
  | _ => none

def nlL (s : LS) : Bool := nlS s.sl && LV.nls s.ob
/-! the ways of evaluation, over the parts' -/
abbrev EvF := LS → Res (LV × LS)
def op2E (g : PyData → PyData → Option RK) (lv : LV → LV → RK → LV) (bb : Bool) (fa fb : EvF) : EvF := fun s => (fa s).bind fun p => if bb = true ∧ p.1.nl = false then .stuck else (fb p.2).bind fun q =>
  match p.1.dat q.2.ob, q.1.dat q.2.ob with
  | some d, some e => match g d e with
    | some r => .ok (lv p.1 q.1 r, q.2)
    | none => .stuck
  | _, _ => .stuck
def lvB (x y : LV) (r : RK) : LV := r.lv (x.lh || y.lh)
def lvC (_ _ : LV) (r : RK) : LV := r.lv false
def lvA (x _ : LV) (r : RK) : LV := r.lv x.lh
def negE (fa : EvF) : EvF := fun s => (fa s).bind fun p => match p.1 with
  | .imm (.int i) => .ok (.imm (.int (-i)), p.2)
  | _ => .stuck
def chainE (o1 o2 : CmpOp) (bb : Bool) (fa fb fc : EvF) : EvF := fun s => if bb then .stuck else (fa s).bind fun p => (fb p.2).bind fun q =>
  match p.1.dat q.2.ob, q.1.dat q.2.ob with
  | some d, some e => match cmpD o1 d e with
    | some b => if b then (fc q.2).bind fun t => match t.1.dat t.2.ob with
        | some f => match cmpD o2 e f with
          | some r => .ok (.imm (.bool r), t.2)
          | none => .stuck
        | none => .stuck
      else .ok (.imm (.bool false), q.2)
    | none => .stuck
  | _, _ => .stuck
def andE (fa fb : EvF) : EvF := fun s => (tstR (fa s)).bind fun p => if p.1 then (tstR (fb p.2)).bind fun q => .ok (.imm (.bool q.1), q.2) else .ok (.imm (.bool false), p.2)
def orE (fa fb : EvF) : EvF := fun s => (tstR (fa s)).bind fun p => if p.1 then .ok (.imm (.bool true), p.2) else (tstR (fb p.2)).bind fun q => .ok (.imm (.bool q.1), q.2)
def notE (fa : EvF) : EvF := fun s => (tstR (fa s)).bind fun p => .ok (.imm (.bool (!p.1)), p.2)
def iteE (fc fa fb : EvF) : EvF := fun s => (tstR (fc s)).bind fun p => if p.1 then fa p.2 else fb p.2
def varE (i : Nat) : EvF := fun s => match s.sl[i]? with
  | some (some x) => match readV s.ob x with
    | some y => .ok (y, s)
    | none => .stuck
  | _ => .stuck
def slE (bb : Bool) (fa : EvF) (fl fh : LS → Res (Option Int × LS)) : EvF := fun s => if bb then .stuck else (fa s).bind fun p => (fl p.2).bind fun q => (fh q.2).bind fun t =>
  match p.1.dat t.2.ob with
  | some d => match slD d q.1 t.1 with
    | some r => .ok (r.lv p.1.lh, t.2)
    | none => .stuck
  | none => .stuck
def biE (g : List PyData → Option RK) (fa : LS → Res (List LV × LS)) : EvF := fun s => (fa s).bind fun p => match datsOf p.2.ob p.1 with
  | some ds => match g ds with
    | some r => .ok (r.lv (lhs p.1), p.2)
    | none => .stuck
  | none => .stuck
def mtE (g : PyData → List PyData → Option RK) (bb : Bool) (fo : EvF) (fa : LS → Res (List LV × LS)) : EvF := fun s => (fo s).bind fun p => if bb = true ∧ p.1.nl = false then .stuck else (fa p.2).bind fun q =>
  match p.1.dat q.2.ob, datsOf q.2.ob q.1 with
  | some d, some ds => match g d ds with
    | some r => .ok (r.lv (p.1.lh || lhs q.1), q.2)
    | none => .stuck
  | _, _ => .stuck
def tupE (fa : LS → Res (List LV × LS)) : EvF := fun s => (fa s).bind fun p => if p.1.length ≤ sizeLine then .ok (mkTup p.1, p.2) else .stuck
def lstE (fa : LS → Res (List LV × LS)) : EvF := fun s => (fa s).bind fun p => if p.1.length ≤ sizeLine then .ok (.lst p.1, p.2) else .stuck
def dkE (ks : List Str) (fa : LS → Res (List LV × LS)) : EvF := fun s => (fa s).bind fun p => if ks.length = p.1.length ∧ ks.length ≤ 15 ∧ ks.Nodup ∧ nlAll p.1 = true ∧ nlL p.2 = true then .ok (.dic ((ks.map Sum.inr).zip p.1), p.2) else .stuck
def callEE (cf : CF) (f : Nat) (fa : LS → Res (List AV × LS)) : EvF := fun s => (fa s).bind fun p => callE cf f p.1 p.2
def isLst : Option LV → Bool
  | some (.lst _) => true
  | _ => false
/-- nothing is raised -/
def noExc {α : Type} : Res α → Res α
  | .exc _ _ _ => .stuck
  | r => r
def mutE (i : Nat) (bad : Bool) (g : LV → List LV → Option (LV × LV)) (fp : LS → Res (List PyData)) (fa : LS → Res (List LV × LS)) : EvF := fun s => if bad then .stuck else (noExc (fp s)).bind fun ds => if isLst (getF s i ds) = false then .stuck else (fa s).bind fun q =>
  match getF q.2 i ds with
  | some z => if nlAll q.1 then match g z q.1 with
      | some (z', y) => match putF q.2 i ds z' with
        | some s' => .ok (y, s')
        | none => .stuck
      | none => .stuck
    else .stuck
  | none => .stuck
def rdE (i : Nat) (fp : LS → Res (List PyData)) : EvF := fun s => (noExc (fp s)).bind fun ds => match s.sl[i]? with
  | some (some x) => match getP x ds with
    | some z => match readV s.ob z with
      | some y => .ok (y, s)
      | none => .stuck
    | none => .stuck
  | _ => .stuck
def frzE (fa : EvF) : EvF := fun s => (fa s).bind fun p => if p.1.nl then match p.1.dat0 with
    | some d => .ok (.imm d, p.2)
    | none => .stuck
  else .stuck
def consA (bb : Bool) (fa : EvF) (fb : LS → Res (List LV × LS)) : LS → Res (List LV × LS) := fun s => (fa s).bind fun p => if bb = true ∧ p.1.nl = false then .stuck else (fb p.2).bind fun q => .ok (p.1 :: q.1, q.2)
def starA (bb : Bool) (fa : EvF) (fb : LS → Res (List LV × LS)) : LS → Res (List LV × LS) := fun s => (fa s).bind fun p => if bb = true ∧ p.1.nl = false then .stuck else match starItems p.1 with
  | some xs => (fb p.2).bind fun q => .ok (xs ++ q.1, q.2)
  | none => .stuck
def consC (bb : Bool) (fa : EvF) (fb : LS → Res (List AV × LS)) : LS → Res (List AV × LS) := fun s => (fa s).bind fun p => if bb = true ∧ p.1.nl = false then .stuck else (fb p.2).bind fun q => .ok (.dat p.1 :: q.1, q.2)
def slotC (i : Nat) (fb : LS → Res (List AV × LS)) : LS → Res (List AV × LS) := fun s => match s.sl[i]? with
  | some (some _) => (fb s).bind fun q => .ok (.slot i :: q.1, q.2)
  | _ => .stuck
/-- one step more of a path, without effects -/
def snocP (fa : LS → Res (List PyData)) (fb : EvF) : LS → Res (List PyData) := fun s => (fa s).bind fun ds => (fb s).bind fun p => match p.1 with
  | .imm d => .ok (ds ++ [d])
  | _ => .stuck
def intO (fa : EvF) : LS → Res (Option Int × LS) := fun s => (fa s).bind fun p => match p.1 with
  | .imm (.int i) => .ok (some i, p.2)
  | _ => .stuck
abbrev ItF := LS → Res ((List LV × Bool) × LS)
def itP (fa : EvF) : ItF := fun s => (fa s).bind fun p => match p.1.dat p.2.ob with
  | some d => match itemsD d with
    | some ds => .ok ((ds.map (mkImm p.1.lh), p.1.lh), p.2)
    | none => .stuck
  | none => .stuck
def itR1 (fa : LS → Res (List LV × LS)) : ItF := fun s => (fa s).bind fun p => match p.1 with
  | [.imm (.int j)] => if small62 j then .ok (((rangeD 0 j).map .imm, false), p.2) else .stuck
  | _ => .stuck
def itR2 (fa : LS → Res (List LV × LS)) : ItF := fun s => (fa s).bind fun p => match p.1 with
  | [.imm (.int i), .imm (.int j)] => if small62 i && small62 j then .ok (((rangeD i j).map .imm, false), p.2) else .stuck
  | _ => .stuck
def itR (one : Bool) (fa : LS → Res (List LV × LS)) : ItF := if one then itR1 fa else itR2 fa
def listD : PyData → Option (List PyData)
  | .list xs => some xs
  | _ => none
def nilA : LS → Res (List LV × LS) := fun s => .ok ([], s)
def itE (fA : LS → Res (List LV × LS)) : ItF := fun s => (fA s).bind fun p => match datsOf p.2.ob p.1 with
  | some [d] => match listD d with
    | some ds => .ok (((enumD 0 ds).map (mkImm (lhs p.1)), lhs p.1), p.2)
    | none => .stuck
  | _ => .stuck
def itZ (fA : LS → Res (List LV × LS)) : ItF := fun s => (fA s).bind fun p => match datsOf p.2.ob p.1 with
  | some [d, e] => match listD d, listD e with
    | some ds, some es => .ok (((zipD ds es).map (mkImm (lhs p.1)), lhs p.1), p.2)
    | _, _ => .stuck
  | _ => .stuck
def lcStep (ft : LS → Res (Bool × LS)) (fe : EvF) : LS → Res (List LV × LS) := fun s1 => (ft s1).bind fun t => if t.1 then (fe t.2).bind fun e => .ok ([e.1], e.2) else .ok ([], t.2)
def lcEnd (own : List Nat) (s : LS) (q : List LV × LS) : Res (LV × LS) := if q.1.length ≤ sizeLine ∧ nlAll q.1 = true then .ok (.lst q.1, ⟨backL s.sl q.2.sl own, q.2.ob⟩) else .stuck
def lcBad (own : List Nat) (be : Bool) (p : (List LV × Bool) × LS) : Prop := (p.1.2 = true ∧ be = true) ∨ cleanL p.2.sl own = false ∨ nlL p.2 = false ∨ nlAll p.1.1 = false
instance {own be p} : Decidable (lcBad own be p) := by unfold lcBad; infer_instance
def lcE (own : List Nat) (be : Bool) (tg : Tg) (fi : ItF) (ft : LS → Res (Bool × LS)) (fe : EvF) : EvF := fun s => (fi s).bind fun p =>
  if lcBad own be p then .stuck else (noExc (compL own tg (lcStep ft fe) p.1.1 p.2)).bind fun q => lcEnd own p.2 q
def lc2Step (own2 : List Nat) (ft : LS → Res (Bool × LS)) (tg2 : Tg) (fi2 : ItF) (ft2 : LS → Res (Bool × LS)) (fe : EvF) : LS → Res (List LV × LS) := fun s1 => (ft s1).bind fun t => if t.1 then (fi2 t.2).bind fun p2 => if p2.1.2 = true ∨ nlAll p2.1.1 = false then .stuck else compL own2 tg2 (lcStep ft2 fe) p2.1.1 p2.2 else .ok ([], t.2)
def lc2E (own own2 : List Nat) (be : Bool) (tg : Tg) (fi : ItF) (ft : LS → Res (Bool × LS)) (tg2 : Tg) (fi2 : ItF) (ft2 : LS → Res (Bool × LS)) (fe : EvF) : EvF := fun s => (fi s).bind fun p =>
  if lcBad own be p then .stuck else (noExc (compL own tg (lc2Step own2 ft tg2 fi2 ft2 fe) p.1.1 p.2)).bind fun q => lcEnd own p.2 q
mutual
def evalE (cf : CF) : ME → EvF
  | .c d => fun s => .ok (.imm d, s)
  | .g _ d => fun s => .ok (.imm d, s)
  | .v i => varE i
  | .tup as => tupE (evalA cf as)
  | .lst as => lstE (evalA cf as)
  | .dk ks as => dkE ks (evalA cf as)
  | .bin op a b => op2E (bopD op) lvB (eff b) (evalE cf a) (evalE cf b)
  | .neg a => negE (evalE cf a)
  | .cmp op a b => op2E (cmpK op) lvC (eff b) (evalE cf a) (evalE cf b)
  | .chain o1 o2 a b c => chainE o1 o2 (eff b || eff c) (evalE cf a) (evalE cf b) (evalE cf c)
  | .and a b => andE (evalE cf a) (evalE cf b)
  | .or a b => orE (evalE cf a) (evalE cf b)
  | .not a => notE (evalE cf a)
  | .ite c a b => iteE (evalE cf c) (evalE cf a) (evalE cf b)
  | .ix a b => op2E ixK lvB (eff b) (evalE cf a) (evalE cf b)
  | .sl a lo hi => slE (eff lo || eff hi) (evalE cf a) (evalO cf lo) (evalO cf hi)
  | .call f as => callEE cf f (evalC cf as)
  | .callk f _ as => callEE cf f (evalC cf as)
  | .bi x as => biE (biD x) (evalA cf as)
  | .mt x o as => mtE (mtD x) (eff as) (evalE cf o) (evalA cf as)
  | .mut op i path as => mutE i (eff path || (eff as && !path.isNil)) (mutG op) (evalP cf path) (evalA cf as)
  | .rd i path => rdE i (evalP cf path)
  | .frz a => frzE (evalE cf a)
  | .lc own elt tg it cond => lcE own (eff elt || eff cond) tg (evalI cf it) (tstO cf cond) (evalE cf elt)
  | .lc2 own own2 elt tg it cond tg2 it2 cond2 => lc2E own own2 (eff elt || eff cond || eff it2 || eff cond2) tg (evalI cf it) (tstO cf cond) tg2 (evalI cf it2) (tstO cf cond2) (evalE cf elt)
  | _ => fun _ => .stuck
/-- items of a display, arguments of a built-in -/
def evalA (cf : CF) : ME → LS → Res (List LV × LS)
  | .nil => fun s => .ok ([], s)
  | .cons a b => match a with
    | .star a => starA (eff b) (evalE cf a) (evalA cf b)
    | a => consA (eff b) (evalE cf a) (evalA cf b)
  | _ => fun _ => .stuck
/-- arguments of a def -/
def evalC (cf : CF) : ME → LS → Res (List AV × LS)
  | .nil => fun s => .ok ([], s)
  | .cons a b => match a with
    | .io i => slotC i (evalC cf b)
    | a => consC (eff b) (evalE cf a) (evalC cf b)
  | _ => fun _ => .stuck
/-- a path's steps, without effects -/
def evalP (cf : CF) : ME → LS → Res (List PyData)
  | .nil => fun _ => .ok []
  | .cons a b => snocP (evalP cf a) (evalE cf b)
  | _ => fun _ => .stuck
/-- a bound of a slice -/
def evalO (cf : CF) : ME → LS → Res (Option Int × LS)
  | .no => fun s => .ok (none, s)
  | e => intO (evalE cf e)
/-- a test that may be left out -/
def tstO (cf : CF) : ME → LS → Res (Bool × LS)
  | .no => fun s => .ok (true, s)
  | e => fun s => tstR (evalE cf e s)
/-- what is walked: its items, whether they lie in an own thing -/
def evalI (cf : CF) : ME → ItF
  | .rng as => itR as.isOne (evalA cf as)
  | .enum a => itE (consA false (evalE cf a) nilA)
  | .zip a b => itZ (consA (eff b) (evalE cf a) (consA false (evalE cf b) nilA))
  | e => itP (evalE cf e)
end

/-! ## statements -/
/-- a value handed back: own names give away what they hold -/
def takeV (s : LS) (i : Nat) : Option (LV × LS) := match s.sl[i]? with
  | some (some x) => some (x, ⟨s.sl.set i none, s.ob⟩)
  | _ => none
def takeE (i : Nat) : EvF := fun s => match takeV s i with
  | some p => .ok p
  | none => .stuck
mutual
def moveE (cf : CF) (kp : Nat → Bool) : ME → EvF
  | .v i => if kp i then varE i else takeE i
  | .tup as => tupE (moveA cf kp as)
  | e => evalE cf e
def moveA (cf : CF) (kp : Nat → Bool) : ME → LS → Res (List LV × LS)
  | .nil => fun s => .ok ([], s)
  | .cons a b => match a with
    | .star _ => fun _ => .stuck
    | a => consA true (moveE cf kp a) (moveA cf kp b)
  | _ => fun _ => .stuck
end
def SR.bind (r : SR) (f : LS → SR) : SR := match r with
  | .nxt s => f s
  | r => r
def Res.toS {α : Type} (r : Res α) (f : α → SR) : SR := match r with
  | .ok a => f a
  | .exc c ps s => .exc c ps s
  | .stuck => .stuck
def fuel : Nat := 1000000
def parL : List Nat → List LV → List (Option LV) → Option (List (Option LV))
  | [], [], sl => some sl
  | i :: is, x :: xs, sl => if i < sl.length then parL is xs (sl.set i (some x)) else none
  | _, _, _ => none
def setS (i : Nat) (bad : Bool) (fe : EvF) (fp : LS → Res (List PyData)) (fk : EvF) : LS → SR := fun s => if bad then .stuck else (fe s).toS fun p => (noExc (fp p.2)).toS fun ds => (noExc (fk p.2)).toS fun q =>
  match q.1, getF p.2 i ds with
  | .imm d, some z => if p.1.nl then match putZ z d p.1 with
      | some z' => match putF p.2 i ds z' with
        | some s' => .nxt s'
        | none => .stuck
      | none => .stuck
    else .stuck
  | _, _ => .stuck
def exec (cf : CF) (kp : Nat → Bool) : MS → LS → SR
  | .nil, s => .nxt s
  | .cons a b, s => (exec cf kp a s).bind (exec cf kp b)
  | .pass, s => .nxt s
  | .brk, s => .brk s
  | .cnt, s => .cnt s
  | .ex e, s => (evalE cf e s).toS fun p => .nxt p.2
  | .asg t e, s => (evalE cf e s).toS fun p => if p.1.nl then match bindT t p.1 p.2.sl with
      | some sl' => .nxt ⟨sl', p.2.ob⟩
      | none => .stuck
    else .stuck
  | .par is as, s => (evalA cf as s).toS fun p => if nlAll p.1 then match parL is p.1 p.2.sl with
      | some sl' => .nxt ⟨sl', p.2.ob⟩
      | none => .stuck
    else .stuck
  | .ife c a b, s => (tstR (evalE cf c s)).toS fun p => if p.1 then exec cf kp a p.2 else exec cf kp b p.2
  | .for tg it body, s => (evalI cf it s).toS fun p => if p.1.2 then .stuck else forL tg (exec cf kp body) p.1.1 p.2
  | .whl c body, s => whlL (fun s => tstR (evalE cf c s)) (exec cf kp body) fuel s
  | .ret e, s => (moveE cf kp e s).toS fun p => .ret p.1 p.2
  | .retN, s => .ret (.imm .none) s
  | .setix i path k e, s => setS i (eff path || eff k) (evalE cf e) (evalP cf path) (evalE cf k) s
  | .freeze i, s => match s.sl[i]? with
    | some (some x) => match x.dat0 with
      | some d => if x.nl then .nxt ⟨s.sl.set i (some (.imm d)), s.ob⟩ else .stuck
      | none => .stuck
    | _ => .stuck
  | .share i k, s => match s.sl[i]? with
    | some (some (.dic ks)) => match lookK ks k with
      | some x => if x.giv then .nxt ⟨s.sl.set i (some (.dic (setK ks k (.ref s.ob.length)))), s.ob ++ [x]⟩ else .stuck
      | none => .stuck
    | _ => .stuck

/-! ## calls -/
/-- shared things put back in their places, each once -/
def rsv (ob : List (Option LV)) : LV → Option (LV × List (Option LV))
  | .imm d => some (.imm d, ob)
  | .lent _ => none
  | .ref l => match ob[l]? with
    | some (some x) => if x.giv then some (x, ob.set l none) else none
    | _ => none
  | .lst xs => (rsvs ob xs).map fun p => (.lst p.1, p.2)
  | .tup xs => (rsvs ob xs).map fun p => (.tup p.1, p.2)
  | .dic ks => (rsvk ob ks).map fun p => (.dic p.1, p.2)
where
  rsvs (ob : List (Option LV)) : List LV → Option (List LV × List (Option LV))
    | [] => some ([], ob)
    | x :: xs => match rsv ob x with
      | some (y, ob') => match rsvs ob' xs with
        | some (ys, ob'') => some (y :: ys, ob'')
        | none => none
      | none => none
  rsvk (ob : List (Option LV)) : List (Key × LV) → Option (List (Key × LV) × List (Option LV))
    | [] => some ([], ob)
    | (k, x) :: xs => match rsv ob x with
      | some (y, ob') => match rsvk ob' xs with
        | some (ys, ob'') => some ((k, y) :: ys, ob'')
        | none => none
      | none => none
def outsOf (sl : List (Option LV)) : List Nat → List (Option LV) → Option (List LV × List (Option LV))
  | [], ob => some ([], ob)
  | i :: is, ob => match sl[i]? with
    | some (some x) => match rsv ob x with
      | some (y, ob') => match outsOf sl is ob' with
        | some (ys, ob'') => some (y :: ys, ob'')
        | none => none
      | none => none
    | _ => none
def endOf (io : List Nat) : SR → CRes
  | .nxt s => match outsOf s.sl io (s.ob.map some) with
    | some (ys, _) => .ok (.imm .none) ys
    | none => .stuck
  | .ret x s => match rsv (s.ob.map some) x with
    | some (y, ob') => match outsOf s.sl io ob' with
      | some (ys, _) => .ok y ys
      | none => .stuck
    | none => .stuck
  | .exc c ps s => match outsOf s.sl io (s.ob.map some) with
    | some (ys, _) => .exc c ps ys
    | none => .stuck
  | _ => .stuck
def runB (np ns : Nat) (io : List Nat) (body : LS → SR) (xs : List LV) : CRes :=
  if xs.length = np ∧ nlAll xs = true then endOf io (body ⟨xs.map some ++ List.replicate (ns - np) none, []⟩) else .stuck
/-- a def: how many parameters, how many slots, which parameters are changed, the body -/
structure BDef where
  np : Nat
  ns : Nat
  io : List Nat
  body : CF → LS → SR
def callF (P : List BDef) : Nat → CF
  | 0 => fun _ _ => .stuck
  | n + 1 => fun f xs => match P[f]? with
    | some d => runB d.np d.ns d.io (d.body (callF P n)) xs
    | none => .stuck
end MP
/-! MP.3: a step of evaluation, seen from the heap -/
namespace MP
open PySem PySem.Spec PyProof.Rows L2


section
variable {K : PySem.W.Frag} {H H' H1 H2 : Hp} {R R' : Addr → Prop} {vs : L2.St} {s s' s1 s2 : LS} {m m' m1 m2 : List Addr} {O O' A B A' B' A1 B1 A2 B2 : List Addr}

theorem LI.own (l : LI K H R vs s m A B) : WM (A ++ B) H := fun b z => (List.mem_append.mp z).elim (l.sl.own b) (l.ob.own b)
theorem LI.exists (l : LI K H R vs s m A B) : ∀ a ∈ A ++ B, H a ≠ none := fun a z q => by
  rcases l.own a z with ⟨_, e⟩ | ⟨_, e⟩ <;> rw [q] at e <;> cases e

/-- the state carried on: the heap changed at W, R became R' -/
theorem LI.pres {W : List Addr} (l : LI K H R vs s m A B) (p : Pres W H H') (wm : WM W H) (hW : ∀ a, a ∈ A ++ B → a ∉ W) (hF : ∀ a, a ∉ A ++ B → ¬ R a → H a ≠ none → a ∉ W ∧ ¬ R' a) (hR : ∀ a ∈ A ++ B, ¬ R' a)
    (hS : ∀ a, R' a → H' a ≠ none) (c : W = [] ∨ nlL s = true) : LI K H' R' vs s m A B where
  sl := l.sl.pres p wm (fun _ _ e => e) (fun a f n => ⟨f.1, (hF a f.1 f.2 n).2⟩) (fun a f n => (hF a f.1 f.2 n).1) (fun a z => hW a (List.mem_append_left _ z)) (c.imp id fun c => by simp [nlL] at c; exact c.1)
  ob := l.ob.pres p wm (fun _ _ e => e) (fun a f n => ⟨f.1, (hF a f.1 f.2 n).2⟩) (fun a f n => (hF a f.1 f.2 n).1) (fun a z => hW a (List.mem_append_right _ z)) (c.imp id fun c => by simp [nlL] at c; exact c.2)
  nd := l.nd
  nr := hR
  rs := hS

/-- what an evaluation does: Ov is what its value owns; b: whether it has effects -/
structure Stp (K : PySem.W.Frag) (H : Hp) (R : Addr → Prop) (vs : L2.St) (s : LS) (m A B : List Addr) (b : Bool) (H' : Hp) (s' : LS) (m' A' B' Ov : List Addr) : Prop where
  li : LI K H' (Rv R Ov) vs s' m' A' B'
  nd : Ov.Nodup
  nr : ∀ a ∈ Ov, ¬ R a
  ex : ∀ a ∈ Ov, H' a ≠ none
  pr : Pres (A ++ B) H H'
  dm : ∀ a, H a ≠ none → H' a ≠ none
  gr : ∀ a, a ∈ A' ++ B' ∨ a ∈ Ov → a ∈ A ++ B ∨ H a = none
  mm : ∀ (l : Nat) (a : Addr), m[l]? = some a → m'[l]? = some a
  nl : nlL s = true → nlL s' = true
  ef : b = false → s' = s ∧ Pres [] H H'

theorem Stp.disj {b : Bool} {Ov : List Addr} (x : Stp K H R vs s m A B b H' s' m' A' B' Ov) : ∀ a ∈ A' ++ B', a ∉ Ov := fun a z q => x.li.nr a z (.inr q)

theorem Rv_nil : Rv R [] = R := by
  funext a; unfold Rv; simp
theorem Rv_app {P Q : List Addr} : Rv (Rv R P) Q = Rv R (P ++ Q) := by
  funext a; unfold Rv; simp [or_assoc]

theorem Stp.refl {b : Bool} (l : LI K H R vs s m A B) : Stp K H R vs s m A B b H s m A B [] where
  li := by rw [Rv_nil]; exact l
  nd := List.nodup_nil
  nr := fun _ z => nomatch z
  ex := fun _ z => nomatch z
  pr := Pres.refl
  dm := fun _ e => e
  gr := fun a z => .inl (z.elim id fun q => nomatch q)
  mm := fun _ _ e => e
  nl := id
  ef := fun _ => ⟨rfl, Pres.refl⟩
theorem Stp.any {b b' : Bool} {Ov : List Addr} (x : Stp K H R vs s m A B b H' s' m' A' B' Ov) (h : b' = false → b = false) : Stp K H R vs s m A B b' H' s' m' A' B' Ov :=
  ⟨x.li, x.nd, x.nr, x.ex, x.pr, x.dm, x.gr, x.mm, x.nl, fun q => x.ef (h q)⟩

/-- one behind another -/
theorem Stp.seq {b c : Bool} {P Q : List Addr} (x : Stp K H R vs s m A B b H1 s1 m1 A1 B1 P) (y : Stp K H1 (Rv R P) vs s1 m1 A1 B1 c H2 s2 m2 A2 B2 Q) : Stp K H R vs s m A B (b || c) H2 s2 m2 A2 B2 (P ++ Q) where
  li := by rw [← Rv_app]; exact y.li
  nd := List.nodup_append.mpr ⟨x.nd, y.nd, fun a ha b hb e => y.nr b hb (.inr (e ▸ ha))⟩
  nr := fun a z q => (List.mem_append.mp z).elim (fun z => x.nr a z q) fun z => y.nr a z (.inl q)
  ex := fun a z => (List.mem_append.mp z).elim (fun z => y.dm a (x.ex a z)) (y.ex a)
  pr := x.pr.trans y.pr fun a z => x.gr a (.inl z)
  dm := fun a n => y.dm a (x.dm a n)
  gr := fun a z => by
    have up : a ∈ A1 ++ B1 ∨ H1 a = none → a ∈ A ++ B ∨ H a = none := fun q => by
      rcases q with q | q
      · exact x.gr a (.inl q)
      · cases e : H a with
        | none => exact .inr rfl
        | some o =>
          by_cases w : a ∈ A ++ B
          · exact .inl w
          · rw [x.pr a o e w] at q; cases q
    rcases z with z | z
    · exact up (y.gr a (.inl z))
    · rcases List.mem_append.mp z with z | z
      · exact x.gr a (.inr z)
      · exact up (y.gr a (.inr z))
  mm := fun l a e => y.mm l a (x.mm l a e)
  nl := fun q => y.nl (x.nl q)
  ef := fun q => by
    simp only [Bool.or_eq_false_iff] at q
    obtain ⟨e1, e5⟩ := x.ef q.1
    obtain ⟨f1, f5⟩ := y.ef q.2
    exact ⟨f1.trans e1, e5.trans f5 fun a z => nomatch z⟩

/-- a value made ahead of a step stands behind it -/
theorem Stp.keep {b c : Bool} {P Q : List Addr} {v : V} {z : LV} (x : Stp K H R vs s m A B b H1 s1 m1 A1 B1 P) (r : Rp K H1 m1 (Fz R (A1 ++ B1 ++ P)) v z P) (y : Stp K H1 (Rv R P) vs s1 m1 A1 B1 c H2 s2 m2 A2 B2 Q)
    (n : c = false ∨ z.nl = true) : Rp K H2 m2 (Fz R (A2 ++ B2 ++ (P ++ Q))) v z P := by
  have hF : ∀ a, Fz R (A1 ++ B1 ++ P) a → H1 a ≠ none → Fz R (A2 ++ B2 ++ (P ++ Q)) a := fun a f n => by
    refine ⟨fun w => ?_, f.2⟩
    rcases List.mem_append.mp w with w | w
    · rcases y.gr a (.inl w) with w | w
      · exact f.1 (List.mem_append_left _ w)
      · exact n w
    · rcases List.mem_append.mp w with w | w
      · exact f.1 (List.mem_append_right _ w)
      · rcases y.gr a (.inr w) with w | w
        · exact f.1 (List.mem_append_left _ w)
        · exact n w
  rcases n with n | n
  · obtain ⟨_, e5⟩ := y.ef n
    exact r.pres e5 (fun b z => nomatch z) y.mm hF (fun a _ _ z => nomatch z) (fun a _ z => nomatch z) (.inl rfl)
  · refine r.pres y.pr x.li.own y.mm hF (fun a f _ z => f.1 (List.mem_append_left _ z)) (fun a z w => x.disj a w z) (.inr n)

/-- the end of an operation: what its operands owned is let go, what it made is owned -/
theorem Stp.res {b : Bool} {P Q : List Addr} (x : Stp K H R vs s m A B b H1 s1 m1 A1 B1 P) (p : Pres [] H1 H2) (hQ : ∀ a ∈ Q, (a ∈ P ∨ H1 a = none) ∧ H2 a ≠ none) (nd : Q.Nodup) : Stp K H R vs s m A B b H2 s1 m1 A1 B1 Q where
  li := x.li.pres p (fun b z => nomatch z) (fun _ _ z => nomatch z) (fun a h1 h2 h3 => ⟨(fun z => nomatch z), fun q => Or.elim q (fun q => h2 (.inl q)) fun q => ((hQ a q).1).elim (fun q => h2 (.inr q)) h3⟩)
    (fun a z q => Or.elim q (fun q => x.li.nr a z (.inl q)) fun q => ((hQ a q).1).elim (fun q => x.li.nr a z (.inr q)) (x.li.exists a z))
    (fun a z => Or.elim z (fun z => p.dom a (x.li.rs a (.inl z))) fun z => (hQ a z).2) (.inl rfl)
  nd := nd
  nr := fun a z => ((hQ a z).1).elim (fun w => x.nr a w) fun w q => x.li.rs a (.inl q) w
  ex := fun a z => (hQ a z).2
  pr := x.pr.trans p fun a z => nomatch z
  dm := fun a n => p.dom a (x.dm a n)
  gr := fun a z => by
    rcases z with z | z
    · exact x.gr a (.inl z)
    · rcases (hQ a z).1 with w | w
      · exact x.gr a (.inr w)
      · cases e : H a with
        | none => exact .inr rfl
        | some o =>
          by_cases u : a ∈ A ++ B
          · exact .inl u
          · rw [x.pr a o e u] at w; cases w
  mm := x.mm
  nl := x.nl
  ef := fun q => by
    obtain ⟨e1, e5⟩ := x.ef q
    exact ⟨e1, e5.trans p fun a z => nomatch z⟩
end
end MP
/-! MP.4: what an expression's evaluation promises -/
namespace MP
open PySem PySem.Spec PyProof.Rows L2

/-- where one stands: the written part, what is wanted of an exception, how an exception lies -/
structure Yx where
  K : PySem.W.Frag
  W : WX
  XR : (Addr → Prop) → Hp → Nat → List PyData → Value → Option Addr → Prop
  mono : ∀ (F F' : Addr → Prop) (H : Hp) (c : Nat) (ps : List PyData) (cl : Value) (d : Option Addr), (ims ps = true ∨ ∀ a, F a → H a ≠ none → F' a) → XR F H c ps cl d → XR F' H c ps cl d

abbrev Rel (α β : Type) := Hp → List Addr → (Addr → Prop) → β → α → List Addr → Prop
def Post {α β : Type} (Y : Yx) (H : Hp) (R : Addr → Prop) (vs : L2.St) (s : LS) (m A B : List Addr) (b : Bool) (rel : Rel α β) (r : Res (α × LS)) (Q : β → Hp → Prop) : Prop :=
  match r with
  | .ok p => ∀ y H' m' A' B' Ov, Stp Y.K H R vs s m A B b H' p.2 m' A' B' Ov → rel H' m' (Fz R (A' ++ B' ++ Ov)) y p.1 Ov → Q y H'
  | .exc c ps s' => ∀ cl d H' m' A' B', Stp Y.K H R vs s m A B b H' s' m' A' B' [] → Y.XR (Fz R (A' ++ B')) H' c ps cl d → Y.W cl d vs H'
  | .stuck => False
def tG {α β : Type} (Y : Yx) (b : Bool) (rel : Rel α β) (f : LS → Res (α × LS)) : L2.St → Hp → (β → Hp → Prop) → Prop := fun vs H Q =>
  ∃ s R m A B, LI Y.K H R vs s m A B ∧ (b = true → nlL s = true) ∧ Post Y H R vs s m A B b rel (f s) Q
abbrev relV (Y : Yx) : Rel LV V := fun H m F v x O => Rp Y.K H m F v x O
abbrev relVs (Y : Yx) : Rel (List LV) (List V) := fun H m F v x O => Rps Y.K H m F v x O
abbrev relB : Rel Bool Bool := fun _ _ _ y x O => y = x ∧ O = []
abbrev relI : Rel (Option Int) (Option Int) := fun _ _ _ y x O => y = x ∧ O = []
abbrev SE (Y : Yx) (X : Cx) (b : Bool) (f : LS → Res (LV × LS)) (e : Expr) : Prop := PE X e (tG Y b (relV Y) f)
abbrev SA (Y : Yx) (X : Cx) (b : Bool) (f : LS → Res (List LV × LS)) (es : List Expr) : Prop := PA X es (tG Y b (relVs Y) f)
abbrev ST (Y : Yx) (X : Cx) (b : Bool) (f : LS → Res (Bool × LS)) (e : Expr) : Prop := PT X e (tG Y b relB f)

section
variable {Y : Yx} {H H' H1 H2 : Hp} {R : Addr → Prop} {vs : L2.St} {s s' s1 s2 : LS} {m m' m1 m2 : List Addr} {A B A' B' A1 B1 A2 B2 P : List Addr} {b b1 b2 : Bool} {α β γ δ : Type}
theorem Stp.drop (x : Stp Y.K H R vs s m A B b H' s' m' A' B' P) : Stp Y.K H R vs s m A B b H' s' m' A' B' [] := x.res Pres.refl (fun _ z => nomatch z) List.nodup_nil
/-- the first of two -/
theorem Post.split {rel : Rel α β} {rel1 : Rel γ δ} {Q : β → Hp → Prop} {Q1 : δ → Hp → Prop} {r : Res (γ × LS)} {g : γ × LS → Res (α × LS)} (hb : b = false → b1 = false)
    (h : Post Y H R vs s m A B b rel (r.bind g) Q)
    (k : ∀ p, r = .ok p → Post Y H R vs s m A B b rel (g p) Q → ∀ y H1 m1 A1 B1 P, Stp Y.K H R vs s m A B b1 H1 p.2 m1 A1 B1 P → rel1 H1 m1 (Fz R (A1 ++ B1 ++ P)) y p.1 P → Q1 y H1) :
    Post Y H R vs s m A B b1 rel1 r Q1 := by
  cases r with
  | ok p => exact fun y H1 m1 A1 B1 P x q => k p rfl h y H1 m1 A1 B1 P x q
  | exc c ps s' => exact fun cl d H' m' A' B' x q => h cl d H' m' A' B' (x.any hb) q
  | stuck => exact h
/-- the next one: behind a step -/
theorem Post.next {rel : Rel α β} {rel1 : Rel γ δ} {Q : β → Hp → Prop} {Q1 : δ → Hp → Prop} {r : Res (γ × LS)} {g : γ × LS → Res (α × LS)} (x1 : Stp Y.K H R vs s m A B b1 H1 s1 m1 A1 B1 P) (hb : b = false → b1 = false ∧ b2 = false)
    (h : Post Y H R vs s m A B b rel (r.bind g) Q)
    (k : ∀ p, r = .ok p → Post Y H R vs s m A B b rel (g p) Q → ∀ y H2 m2 A2 B2 P2, Stp Y.K H1 (Rv R P) vs s1 m1 A1 B1 b2 H2 p.2 m2 A2 B2 P2 → rel1 H2 m2 (Fz (Rv R P) (A2 ++ B2 ++ P2)) y p.1 P2 → Q1 y H2) :
    Post Y H1 (Rv R P) vs s1 m1 A1 B1 b2 rel1 r Q1 := by
  cases r with
  | ok p => exact fun y H1 m1 A1 B1 P x q => k p rfl h y H1 m1 A1 B1 P x q
  | exc c ps s' =>
    refine fun cl d H' m' A' B' x q => h cl d H' m' A' B' (((x1.seq x).drop).any fun e => ?_) (Y.mono _ _ _ _ _ _ _ (.inr fun a f _ => ⟨f.1, fun w => f.2 (.inl w)⟩) q)
    obtain ⟨e1, e2⟩ := hb e
    rw [e1, e2]; rfl
  | stuck => exact h

/-- the data of a value -/
theorem Rp.rd {F : Addr → Prop} {O OB : List Addr} {v : V} {x : LV} {d : PyData} {ob : List LV} (r : Rp Y.K H m F v x O) (ro : Rps Y.K H m F (m.map V.ref) ob OB) (e : x.dat ob = some d) :
    ∃ as, RD Y.K H v d as ∧ ∀ a ∈ as, F a ∨ a ∈ O ∨ x.lh = true := by
  cases r with
  | imm r f =>
    obtain ⟨as, q, g⟩ := (Rp.imm r f : Rp Y.K H m F _ _ []).rd0 e
    exact ⟨as, q, fun a z => (g a z).imp id fun w => w.imp id fun w => by simp [LV.nl] at w⟩
  | lent r =>
    obtain ⟨as, q, g⟩ := (Rp.lent r : Rp Y.K H m F _ _ []).rd0 e
    exact ⟨as, q, fun a z => .inr (.inr rfl)⟩
  | lst h r =>
    obtain ⟨as, q, g⟩ := (Rp.lst h r).rd0 e
    exact ⟨as, q, fun a z => (g a z).imp id fun w => w.imp id fun w => by unfold LV.lh; simp [w]⟩
  | dic h r =>
    obtain ⟨as, q, g⟩ := (Rp.dic h r).rd0 e
    exact ⟨as, q, fun a z => (g a z).imp id fun w => w.imp id fun w => by unfold LV.lh; simp [w]⟩
  | tup h r =>
    obtain ⟨as, q, g⟩ := (Rp.tup h r).rd0 e
    exact ⟨as, q, fun a z => (g a z).imp id fun w => w.imp id fun w => by unfold LV.lh; simp [w]⟩
  | @ref a l h =>
    unfold LV.dat at e
    split at e
    · rename_i l' e0
      cases e0
      split at e
      · rename_i y ey
        have at_ : ∀ {us : List V} {xs : List LV} {P : List Addr} {i : Nat} {u : V} {z : LV}, Rps Y.K H m F us xs P → us[i]? = some u → xs[i]? = some z → ∃ P', Rp Y.K H m F u z P' := by
          intro us xs P i u z r
          induction us generalizing xs P i with
          | nil => intro e1; simp at e1
          | cons w ws ih =>
            cases r with
            | cons r t =>
              cases i with
              | zero => intro e1 e2; simp at e1 e2; subst e1 e2; exact ⟨_, r⟩
              | succ i => intro e1 e2; exact ih t (by simpa using e1) (by simpa using e2)
        obtain ⟨P', r'⟩ := at_ ro (by rw [List.getElem?_map, h]; rfl) ey
        obtain ⟨as, q, _⟩ := r'.rd0 e
        exact ⟨as, q, fun a z => .inr (.inr rfl)⟩
      · cases e
    · rename_i hn
      exact absurd rfl (hn l)

/-- what an operation on data leaves -/
def RKrep (K : PySem.W.Frag) (H H' : Hp) (as : List Addr) (v : V) : RK → Prop
  | .dat d => ∃ bs, RD K H' v d bs ∧ ∀ a ∈ bs, a ∈ as
  | .nl ds => ∃ p us bs, v = .ref p ∧ H p = none ∧ H' p = some (.lst us) ∧ RDs K H' us ds bs ∧ ∀ a ∈ bs, a ∈ as

theorem mkImm_rp {F : Addr → Prop} {len : Bool} {v : V} {d : PyData} {as : List Addr} (r : RD Y.K H v d as) (h : len = false → ∀ a ∈ as, F a) : Rp Y.K H m F v (mkImm len d) [] := by
  unfold mkImm
  cases len with
  | false => exact .imm r (h rfl)
  | true =>
    simp only [if_true]
    unfold mkLent
    split
    · rename_i hi
      exact .imm r fun a z => by rw [r.im hi] at z; cases z
    · exact .lent r
theorem mkImm_rps {F : Addr → Prop} {len : Bool} : ∀ {ds : List PyData} {us : List V} {as : List Addr}, RDs Y.K H us ds as → (len = false → ∀ a ∈ as, F a) → Rps Y.K H m F us (ds.map (mkImm len)) []
  | _, _, _, .nil, _ => .nil
  | _, _, _, .cons r t, h => by
    have q := Rps.cons (mkImm_rp (m := m) r fun e a z => h e a (List.mem_append_left _ z)) (mkImm_rps t fun e a z => h e a (List.mem_append_right _ z))
    exact q

/-- an operation's end -/
theorem Stp.op {rk : RK} {v : V} {as : List Addr} {len : Bool} (x : Stp Y.K H R vs s m A B b H1 s1 m1 A1 B1 P) (p : Pres [] H1 H2) (r : RKrep Y.K H1 H2 as v rk) (ha : len = false → ∀ a ∈ as, a ∉ A1 ++ B1 ∧ ¬ R a) (he : ∀ a ∈ as, H1 a ≠ none) :
    ∃ Ov, Stp Y.K H R vs s m A B b H2 s1 m1 A1 B1 Ov ∧ Rp Y.K H2 m1 (Fz R (A1 ++ B1 ++ Ov)) v (rk.lv len) Ov := by
  cases rk with
  | dat d =>
    obtain ⟨bs, r, hb⟩ := r
    refine ⟨[], x.res p (fun _ z => nomatch z) List.nodup_nil, mkImm_rp r fun e a z => ?_⟩
    rw [List.append_nil]
    exact ha e a (hb a z)
  | nl ds =>
    obtain ⟨q, us, bs, rfl, hq, hq', r, hb⟩ := r
    refine ⟨[q], x.res p (fun a z => ?_) (List.nodup_cons.mpr ⟨List.not_mem_nil, List.nodup_nil⟩), ?_⟩
    · cases List.mem_singleton.mp z
      exact ⟨.inr hq, by rw [hq']; exact fun z => nomatch z⟩
    · have q2 := Rp.lst (m := m1) (F := Fz R (A1 ++ B1 ++ [q])) hq' (mkImm_rps (len := len) r fun e a z => by
        obtain ⟨h1, h2⟩ := ha e a (hb a z)
        refine ⟨fun w => ?_, h2⟩
        rcases List.mem_append.mp w with w | w
        · exact h1 w
        · have e := List.mem_singleton.mp w
          rw [e] at z
          exact he _ (hb _ z) hq)
      exact q2
end

/-! ## operations on data, at the values -/
def Op2 (K : PySem.W.Frag) (g : PyData → PyData → Option RK) : R2 := fun x y H Q => ∃ d e as bs r, RD K H x d as ∧ RD K H y e bs ∧ g d e = some r ∧ ∀ v H', Pres [] H H' → RKrep K H H' (as ++ bs) v r → Q v H'

section
variable {Y : Yx} {X : Cx} {ea eb : Expr} {ba bb : Bool} {fa fb : LS → Res (LV × LS)} {pos : Pos}
/-- two operands and an operation on their data -/
theorem seq_op {g : PyData → PyData → Option RK} {vs : L2.St} {H : Hp} {Q : VK} (lv : LV → LV → RK → LV)
    (hlv : ∀ x y r, ∃ len, lv x y r = r.lv len ∧ (len = false → x.lh = false ∧ y.lh = false))
    (h : tG Y (ba || bb) (relV Y) (fun s => (fa s).bind fun p => if bb = true ∧ p.1.nl = false then .stuck else (fb p.2).bind fun q =>
      match p.1.dat q.2.ob, q.1.dat q.2.ob with
      | some d, some e => match g d e with
        | some r => .ok (lv p.1 q.1 r, q.2)
        | none => .stuck
      | _, _ => .stuck) vs H Q) : tOp (Op2 Y.K g) (tG Y ba (relV Y) fa) (tG Y bb (relV Y) fb) vs H Q := by
  obtain ⟨s, R, m, A, B, l, n, h⟩ := h
  refine ⟨s, R, m, A, B, l, fun e => n (by rw [e]; rfl), h.split (fun e => by cases ba <;> simp_all) fun p hp h1 y H1 m1 A1 B1 P x1 r1 => ?_⟩
  by_cases hc : bb = true ∧ p.1.nl = false
  · rw [if_pos hc] at h1; exact h1.elim
  rw [if_neg hc] at h1
  refine ⟨p.2, Rv R P, m1, A1, B1, x1.li, fun e => x1.nl (n (by rw [e]; cases ba <;> rfl)), h1.next x1 (fun e => by cases ba <;> cases bb <;> simp_all) fun q hq h2 z H2 m2 A2 B2 P2 x2 r2 => ?_⟩
  have r1' := x1.keep r1 x2 (by
    cases e : bb with
    | false => exact .inl rfl
    | true =>
      right
      cases e2 : p.1.nl with
      | true => rfl
      | false => exact absurd ⟨e, e2⟩ hc)
  have x := x1.seq x2
  revert h2
  cases e1 : p.1.dat q.2.ob with
  | none => exact fun h2 => h2.elim
  | some d =>
    cases e2 : q.1.dat q.2.ob with
    | none => exact fun h2 => h2.elim
    | some e =>
      simp only
      cases e3 : g d e with
      | none => exact fun h2 => h2.elim
      | some r =>
        intro h2
        have hfz : ∀ a, Fz R (A2 ++ B2 ++ (P ++ P2)) a → Fz (Rv R (P ++ P2)) (A2 ++ B2) a := fun a f => ⟨fun w => f.1 (List.mem_append_left _ w), fun w => w.elim f.2 fun w => f.1 (List.mem_append_right _ w)⟩
        have ob : Rps Y.K H2 m2 (Fz R (A2 ++ B2 ++ (P ++ P2))) (m2.map V.ref) q.2.ob B2 := x.li.ob.pres (W := []) Pres.refl (fun b z => nomatch z) (fun _ _ e => e)
          (fun a f _ => ⟨fun w => (List.mem_append.mp w).elim f.1 fun w => f.2 (.inr w), fun w => f.2 (.inl w)⟩) (fun _ _ _ z => nomatch z) (fun _ _ z => nomatch z) (.inl rfl)
        have r2' : Rp Y.K H2 m2 (Fz R (A2 ++ B2 ++ (P ++ P2))) z q.1 P2 := r2.pres (W := []) Pres.refl (fun b z => nomatch z) (fun _ _ e => e)
          (fun a f _ => ⟨fun w => by
            rcases List.mem_append.mp w with w | w
            · exact f.1 (List.mem_append_left _ w)
            · rcases List.mem_append.mp w with w | w
              · exact f.2 (.inr w)
              · exact f.1 (List.mem_append_right _ w), fun w => f.2 (.inl w)⟩) (fun _ _ _ z => nomatch z) (fun _ _ z => nomatch z) (.inl rfl)
        obtain ⟨as, d1, f1⟩ := r1'.rd ob e1
        obtain ⟨bs, d2, f2⟩ := r2'.rd ob e2
        refine ⟨d, e, as, bs, r, d1, d2, e3, fun v H' p' rk => ?_⟩
        obtain ⟨len, el, hl⟩ := hlv p.1 q.1 r
        have hfin : len = false → ∀ a ∈ as ++ bs, a ∉ A2 ++ B2 ∧ ¬ R a := fun e a z => by
          obtain ⟨l1, l2⟩ := hl e
          have fin : Fz R (A2 ++ B2 ++ (P ++ P2)) a ∨ a ∈ P ++ P2 → a ∉ A2 ++ B2 ∧ ¬ R a := fun w => by
            rcases w with w | w
            · exact ⟨fun u => w.1 (List.mem_append_left _ u), w.2⟩
            · exact ⟨fun u => x.disj a u w, x.nr a w⟩
          rcases List.mem_append.mp z with z | z
          · rcases f1 a z with w | w | w
            · exact fin (.inl w)
            · exact fin (.inr (List.mem_append_left _ w))
            · rw [l1] at w; cases w
          · rcases f2 a z with w | w | w
            · exact fin (.inl w)
            · exact fin (.inr (List.mem_append_right _ w))
            · rw [l2] at w; cases w
        obtain ⟨Ov, x', rp⟩ := x.op (len := len) p' rk hfin (fun a z => (List.mem_append.mp z).elim (d1.dom a) (d2.dom a))
        refine h2 v H' m2 A2 B2 Ov x' ?_
        show Rp Y.K H' m2 _ v (lv p.1 q.1 r) Ov
        rw [el]; exact rp
end
end MP
/-! MP.5: the operations on data, as the machine does them -/
namespace MP
open PySem PySem.Spec PyProof.Rows L2

theorem key_reads {h : Heap} {k : Key} {u : Value} (p : keyIs k u = true) : Reads h u (kD k) [] := by
  rcases keyIs_shape p with ⟨i, tk, e, e'⟩ | ⟨x, tk, e, e'⟩
  · rw [e, e']; exact .int i tk
  · rw [e, e']; exact .str x tk
section
variable {X : Cx} {pins : List (Addr × Obj)} {σ : L2.St} {H : Hp} {s : Shared}
mutual
theorem RD.reads (I : Inv X pins σ H s) : ∀ {d : PyData} {v : V} {u : Value} {as : List Addr}, RD X.K H v d as → sc d = true → RelV v u → ∃ bs, Reads s.heap u d bs
  | .none, _, _, _, .non, _, r => by cases r; exact ⟨_, Reads.none⟩
  | .bool _, _, _, _, .bl b, _, r => by cases r; exact ⟨_, Reads.bool b⟩
  | .int _, _, _, _, .int i, _, r => by obtain ⟨t, rfl⟩ := r; exact ⟨_, Reads.int i t⟩
  | .str _, _, _, _, .str x, _, r => by obtain ⟨t, rfl⟩ := r; exact ⟨_, Reads.str x t⟩
  | .list ds, _, _, _, .lst h r, c, e => by
    cases e
    obtain ⟨_, its, n, rv, hg⟩ := (Rd.of h).ok I.hok
    obtain ⟨bs, q⟩ := RDs.reads I r (by simpa [sc] using c) rv
    exact ⟨_, Reads.list hg rfl rfl q⟩
  | .tuple ds, _, _, _, .tup h r, c, e => by
    cases e
    obtain ⟨its, rv, ⟨o, ho, hc, n, hd⟩, _⟩ := I.tuple h.sqt
    obtain ⟨bs, q⟩ := RDs.reads I r (by simpa [sc] using c) rv
    exact ⟨_, Reads.tuple ho hc hd q⟩
  | .dict _, _, _, _, .scr h r, c, e => by simp [sc, sck] at c
  | .dict ds, _, _, _, .dic h r, c, e => by
    cases e
    obtain ⟨_, _, ws, kv, o, es, ep, ho, hx, hd, _, hp, _⟩ := I.hok _ _ h
    obtain ⟨as, bs, q1, q2⟩ := RDk.reads I r (by simpa [sc] using c) kv hp
    exact ⟨_, Reads.dict ho hx.1 hd q1 q2⟩
theorem RDs.reads (I : Inv X pins σ H s) : ∀ {d : List PyData} {v : List V} {u : List Value} {as : List Addr}, RDs X.K H v d as → scs d = true → Vals v u → ∃ bs, ReadsAll s.heap u d bs
  | [], _, _, _, .nil, _, r => by cases r; exact ⟨_, .nil⟩
  | _ :: _, _, _, _, .cons h t, c, r => by
    simp [scs] at c
    cases r with
    | cons r1 r2 =>
      obtain ⟨as, q1⟩ := RD.reads I h c.1 r1
      obtain ⟨bs, q2⟩ := RDs.reads I t c.2 r2
      exact ⟨_, .cons q1 q2⟩
theorem RDk.reads (I : Inv X pins σ H s) : ∀ {d : List (PyData × PyData)} {v : List (Key × V)} {u : List (Key × Value)} {es : List DictEntry} {as : List Addr}, RDk X.K H v d as → sck d = true → KV v u → PySem.Pairs (mixKind X.prog X.w) es u →
    ∃ bs cs, ReadsAll s.heap (es.map (·.key)) (d.map (·.1)) bs ∧ ReadsAll s.heap (es.map (·.val)) (d.map (·.2)) cs
  | [], _, _, _, _, .nil, _, r, p => by cases r; cases p; exact ⟨_, _, .nil, .nil⟩
  | _ :: _, _, _, _, _, .cons h t, c, r, p => by
    simp [sck] at c
    cases r with
    | cons r1 r2 =>
      cases p with
      | cons p1 p2 p3 =>
        obtain ⟨e1, e2⟩ := r1
        obtain ⟨as, q1⟩ := RD.reads I h c.1.2 e2
        obtain ⟨bs, cs, q2, q3⟩ := RDk.reads I t c.2 r2 p3
        rw [← p2] at q1
        rw [← e1] at p1
        have q := key_reads (h := s.heap) p1
        exact ⟨_, _, .cons q q2, .cons q1 q3⟩
end

/-- a list, whether it is held fast or not -/
theorem rdl (I : Inv X pins σ H s) {a : Addr} {xs : List V} (h : Rd H a (.lst xs)) : xs.length ≤ sizeLine ∧ ∃ (its : List Value) (n : Nat), Vals xs its ∧ s.heap.get? a = some { cls := .type "list", data := .seq its.toArray n } := h.ok I.hok
theorem SqL.ofRd {K : PySem.W.Frag} {a : Addr} {xs : List V} (h : Rd H a (.lst xs)) : SqL K H a xs := .inl h

theorem RDs.length : ∀ {K : PySem.W.Frag} {ds : List PyData} {us : List V} {as : List Addr}, RDs K H us ds as → us.length = ds.length
  | _, _, _, _, .nil => rfl
  | _, _, _, _, .cons _ t => by simp [RDs.length t]
theorem RDs.append {K : PySem.W.Frag} : ∀ {ds es : List PyData} {us ws : List V} {as bs : List Addr}, RDs K H us ds as → RDs K H ws es bs → RDs K H (us ++ ws) (ds ++ es) (as ++ bs)
  | _, _, _, _, _, _, .nil, r => r
  | _, _, _, _, _, _, .cons h t, r => by
    rw [List.append_assoc]
    exact .cons h (RDs.append t r)
theorem RDs.get {K : PySem.W.Frag} : ∀ {ds : List PyData} {us : List V} {as : List Addr}, RDs K H us ds as → ∀ {i : Nat} {d : PyData}, ds[i]? = some d → ∃ u bs, us[i]? = some u ∧ RD K H u d bs ∧ ∀ a ∈ bs, a ∈ as
  | _, _, _, .nil, _, _, e => by simp at e
  | _, _, _, .cons h t, 0, _, e => by
    cases Option.some.inj e
    exact ⟨_, _, rfl, h, fun a z => List.mem_append_left _ z⟩
  | _, _, _, .cons h t, i + 1, d, e => by
    obtain ⟨u, bs, e1, r, f⟩ := RDs.get t (i := i) (d := d) (by simpa using e)
    exact ⟨u, bs, by simpa using e1, r, fun a z => List.mem_append_right _ (f a z)⟩
theorem RDs.take {K : PySem.W.Frag} : ∀ {ds : List PyData} {us : List V} {as : List Addr} (n : Nat), RDs K H us ds as → ∃ bs, RDs K H (us.take n) (ds.take n) bs ∧ ∀ a ∈ bs, a ∈ as
  | _, _, _, 0, _ => ⟨[], .nil, fun a z => nomatch z⟩
  | _, _, _, n + 1, .nil => ⟨[], .nil, fun a z => nomatch z⟩
  | _, _, _, n + 1, .cons h t => by
    obtain ⟨bs, r, f⟩ := RDs.take n t
    exact ⟨_, .cons h r, fun a z => (List.mem_append.mp z).elim (List.mem_append_left _) fun z => List.mem_append_right _ (f a z)⟩
theorem RDs.drop {K : PySem.W.Frag} : ∀ {ds : List PyData} {us : List V} {as : List Addr} (n : Nat), RDs K H us ds as → ∃ bs, RDs K H (us.drop n) (ds.drop n) bs ∧ ∀ a ∈ bs, a ∈ as
  | _, _, _, 0, r => ⟨_, r, fun a z => z⟩
  | _, _, _, n + 1, .nil => ⟨[], .nil, fun a z => nomatch z⟩
  | _, _, _, n + 1, .cons h t => by
    obtain ⟨bs, r, f⟩ := RDs.drop n t
    exact ⟨bs, r, fun a z => List.mem_append_right _ (f a z)⟩

/-- the end: a new list -/
theorem new_list {as : List Addr} {Q : VK} {ds : List PyData} {us : List V} {its : List Value} {bs : List Addr} {tk : Nat} (I : Inv X pins σ H s) (hz : us.length ≤ sizeLine) (rv : Vals us its) (r : RDs X.K H us ds bs) (f : ∀ a ∈ bs, a ∈ as)
    (k : ∀ v H', Pres [] H H' → RKrep X.K H H' as v (.nl ds) → Q v H') : EP X pins σ Q (.ref s.heap.objs.size) { s with heap := s.heap.push { cls := .type "list", data := .seq its.toArray }, toks := tk } := by
  have hn : H s.heap.objs.size = none := I.fresh
  exact ⟨.ref _, _, I.lnew (t' := tk) rv hz, rfl, k _ _ (Pres.new hn) ⟨_, us, bs, rfl, hn, upd_same, r.pres (W := []) (Pres.new hn) (fun _ z => nomatch z) (fun _ _ z => nomatch z), f⟩⟩
/-- the object of a new tuple -/
abbrev tob (its : List Value) : Obj := { cls := .type "tuple", data := .seq its.toArray }
theorem laidT {us : List V} {its : List Value} {tk : Nat} (I : Inv X pins σ H s) (hz : us.length ≤ sizeLine) (rv : Vals us its) :
    Inv X pins σ (upd H s.heap.objs.size (.frz (tob its) (.tup us))) { s with heap := s.heap.push (tob its), toks := tk } :=
  I.laid (t' := tk) (fun _ _ q => Heap.get?_push_of_some _ q) (Nat.le_refl _) ⟨Heap.get?_push_size _ rfl, hz, its, rv, IsTup.new _ _⟩
/-- the rest of a rule that makes a tuple -/
def NT (Q : VK) (H : Hp) (us : List V) : Prop := ∀ p o, H p = none → PlO o → Q (.ref p) (upd H p (.frz o (.tup us)))
theorem endT {us : List V} {its : List Value} {Q : VK} (I : Inv X pins σ H s) (hz : us.length ≤ sizeLine) (rv : Vals us its) (k : NT Q H us) : EP X pins σ Q (.ref s.heap.objs.size) { s with heap := s.heap.push (tob its) } :=
  ⟨.ref _, _, laidT (tk := s.toks) I hz rv, rfl, k _ _ I.fresh ⟨rfl, rfl⟩⟩
theorem new_tup {as : List Addr} {Q : VK} {ds : List PyData} {us : List V} {its : List Value} {bs : List Addr} (I : Inv X pins σ H s) (hz : us.length ≤ sizeLine) (rv : Vals us its) (r : RDs X.K H us ds bs) (f : ∀ a ∈ bs, a ∈ as)
    (k : ∀ v H', Pres [] H H' → RKrep X.K H H' as v (.dat (.tuple ds)) → Q v H') : EP X pins σ Q (.ref s.heap.objs.size) { s with heap := s.heap.push (tob its) } :=
  endT I hz rv fun p o hn hd => k _ _ (Pres.new hn) ⟨bs, .tup (SqN.new hd) (r.pres (W := []) (Pres.new hn) (fun _ z => nomatch z) (fun _ _ z => nomatch z)), f⟩

/-- an end that leaves all as it is -/
theorem RKrep.same {as bs : List Addr} {v : V} {d : PyData} (r : RD X.K H v d bs) (f : ∀ a ∈ bs, a ∈ as) : RKrep X.K H H as v (.dat d) := ⟨bs, r, f⟩

/-! ### int operators -/
theorem op2_int {f : Value → Value → Sem Value} {C : Int → Int → Prop} {gg : Int → Int → Int} {g : PyData → PyData → Option RK} (ho : OpR X f (rI C fun i j => .int (gg i j)))
    (hg : ∀ d e r, g d e = some r → ∃ i j, d = .int i ∧ e = .int j ∧ C i j ∧ r = .dat (.int (gg i j))) : OpR X f (Op2 X.K g) := by
  intro pins s σ H x y v u Q I rx ry h
  obtain ⟨d, e, as, bs, r, d1, d2, e3, k⟩ := h
  obtain ⟨i, j, rfl, rfl, hc, rfl⟩ := hg d e r e3
  cases d1
  cases d2
  exact ho pins s σ H _ _ v u Q I rx ry ⟨i, j, rfl, rfl, hc, k _ _ Pres.refl (RKrep.same (.int _) fun _ z => nomatch z)⟩
theorem op_mulB : OpR X (binaryOp .Mult) (rI (fun i j => mulOk i j = true) fun i j => .int (i * j)) := opI fun i j _ _ _ _ _ hc q => mul_int q (by
  have b : ∀ x : Int, Builtin.Int.intBits x ≤ x.natAbs.log2 + 1 := fun x => by
    unfold Builtin.Int.intBits
    split <;> omega
  have h1 := b i
  have h2 := b j
  have h3 : i.natAbs.log2 + j.natAbs.log2 < 100000000 := of_decide_eq_true hc
  have e : bitsLine = 134217728 := by decide
  unfold IntMulOk
  intro z
  rw [Bool.and_eq_true] at z
  have z2 := z.2
  unfold Builtin.Int.intTooBig at z2
  have z3 := of_decide_eq_true z2
  rw [e] at z3
  omega)
theorem op2_sub : OpR X (binaryOp .Sub) (Op2 X.K (bopD .Sub)) := by
  intro pins s σ H x y v u Q I rx ry h
  obtain ⟨d, e, as, bs, r, d1, d2, e3, k⟩ := h
  cases d1 <;> cases d2 <;> simp [bopD] at e3
  subst e3
  exact op_sub pins s σ H _ _ v u Q I rx ry ⟨_, _, rfl, rfl, k _ _ Pres.refl (RKrep.same (.int _) fun _ z => nomatch z)⟩
theorem op2_fdiv : OpR X (binaryOp .FloorDiv) (Op2 X.K (bopD .FloorDiv)) := by
  refine op2_int op_fdivW fun d e r h => ?_
  cases d <;> cases e <;> simp [bopD] at h
  exact ⟨_, _, rfl, rfl, h.1, h.2.symm⟩
theorem op2_mod : OpR X (binaryOp .Mod) (Op2 X.K (bopD .Mod)) := by
  refine op2_int op_mod fun d e r h => ?_
  cases d <;> cases e <;> simp [bopD] at h
  exact ⟨_, _, rfl, rfl, h.1, h.2.symm⟩
theorem op2_pow : OpR X (binaryOp .Pow) (Op2 X.K (bopD .Pow)) := by
  refine op2_int op_pow fun d e r h => ?_
  cases d <;> cases e <;> simp [bopD] at h
  exact ⟨_, _, rfl, rfl, h.1, h.2.symm⟩
end
end MP
/-! MP.6: more operations on data -/
namespace MP
open PySem PySem.Spec PyProof.Rows L2

section
variable {X : Cx} {pins : List (Addr × Obj)} {σ : L2.St} {H : Hp} {s : Shared}
theorem inl_of {as bs : List Addr} : ∀ a ∈ as, a ∈ as ++ bs := fun _ z => List.mem_append_left _ z
theorem inr_of {as bs : List Addr} : ∀ a ∈ bs, a ∈ as ++ bs := fun _ z => List.mem_append_right _ z
theorem noA {as : List Addr} : ∀ a ∈ ([] : List Addr), a ∈ as := fun _ z => nomatch z

theorem op2_add : OpR X (binaryOp .Add) (Op2 X.K (bopD .Add)) := by
  intro pins s σ H x y v u Q I rx ry h
  obtain ⟨d, e, as, bs, r, d1, d2, e3, k⟩ := h
  cases d1 with
  | int i =>
    cases d2 <;> simp [bopD] at e3
    subst e3
    exact op_add pins s σ H _ _ v u Q I rx ry ⟨_, _, rfl, rfl, k _ _ Pres.refl (RKrep.same (.int _) noA)⟩
  | str x =>
    cases d2 <;> simp [bopD] at e3
    obtain ⟨hz, rfl⟩ := e3
    exact op_add_str pins s σ H _ _ v u Q I rx ry ⟨_, _, rfl, rfl, hz, k _ _ Pres.refl (RKrep.same (.str _) noA)⟩
  | lst ha ra =>
    cases d2 with
    | lst hb rb =>
      simp [bopD] at e3
      obtain ⟨hz, rfl⟩ := e3
      cases rx
      cases ry
      obtain ⟨z, its, n, rv, e⟩ := rdl I (Rd.of ha)
      obtain ⟨z2, its2, n2, rv2, e2⟩ := rdl I (Rd.of hb)
      have l1 := rv.length
      have l2 := rv2.length
      have l3 := ra.length
      have l4 := rb.length
      refine PySem.P.add_list e e2 ?_ (by rw [List.size_toArray, List.size_toArray]; omega)
      have ea : its.toArray ++ its2.toArray = (its ++ its2).toArray := by simp
      rw [ea]
      exact new_list (tk := s.toks) I (by rw [List.length_append]; omega) (rv.append rv2) (ra.append rb) (fun a z => (List.mem_append.mp z).elim (fun z => inl_of _ (List.mem_cons_of_mem _ z)) fun z => inr_of _ (List.mem_cons_of_mem _ z)) k
    | _ => simp [bopD] at e3
  | tup ha ra =>
    cases d2 with
    | tup hb rb =>
      simp [bopD] at e3
      obtain ⟨hz, rfl⟩ := e3
      have l3 := ra.length
      have l4 := rb.length
      cases rx
      cases ry
      obtain ⟨its, r1, p1, _⟩ := I.tuple ha.sqt
      obtain ⟨its2, r2, p2, _⟩ := I.tuple hb.sqt
      have l1 := r1.length
      have l2 := r2.length
      by_cases hx : its = []
      · subst hx
        cases r1
        cases ra
        exact cat_tup0 p1 p2 ⟨.ref _, H, I, rfl, k _ _ Pres.refl ⟨_, .tup hb rb, fun a z => by simpa using z⟩⟩
      · refine HT.cat_tup p1 p2 hx (fun z => ?_) (fun z => ?_) (by omega)
        · subst z
          cases r2
          cases rb
          refine ⟨.ref _, H, I, rfl, k _ _ Pres.refl ⟨_, ?_, fun a z => inl_of a z⟩⟩
          rw [List.append_nil]
          exact .tup ha ra
        · exact endT I (by rw [List.length_append]; omega) (r1.append r2) fun p o hp hd => k _ _ (Pres.new hp) ⟨_, .tup (SqN.new hd) ((ra.append rb).pres (W := []) (Pres.new hp) (fun _ z => nomatch z) (fun _ _ z => nomatch z)), fun a z => z⟩
    | _ => simp [bopD] at e3
  | _ => cases d2 <;> simp [bopD] at e3

theorem RDs.rep {K : PySem.W.Frag} {xs : List V} {ds : List PyData} {as : List Addr} (ra : RDs K H xs ds as) : ∀ n : Nat, ∃ bs, RDs K H (List.replicate n xs).flatten (List.replicate n ds).flatten bs ∧ ∀ a ∈ bs, a ∈ as
  | 0 => ⟨[], .nil, fun _ z => nomatch z⟩
  | n + 1 => by
    obtain ⟨bs, r', f⟩ := RDs.rep ra n
    rw [List.replicate_succ, List.flatten_cons, List.replicate_succ, List.flatten_cons]
    exact ⟨_, ra.append r', fun a z => (List.mem_append.mp z).elim id (f a)⟩
theorem op2_mul : OpR X (binaryOp .Mult) (Op2 X.K (bopD .Mult)) := by
  intro pins s σ H x y v u Q I rx ry h
  obtain ⟨d, e, as, bs, r, d1, d2, e3, k⟩ := h
  cases d1 with
  | int i =>
    cases d2 <;> simp [bopD] at e3
    obtain ⟨hz, rfl⟩ := e3
    exact op_mulB pins s σ H _ _ v u Q I rx ry ⟨_, _, rfl, rfl, hz, k _ _ Pres.refl (RKrep.same (.int _) noA)⟩
  | lst ha ra =>
    cases d2 with
    | int i =>
      simp [bopD] at e3
      obtain ⟨⟨h1, h2, hz⟩, rfl⟩ := e3
      have l3 := ra.length
      refine op_rep pins s σ H _ _ v u Q I rx ry ⟨_, _, _, rfl, rfl, ha, h1, h2, by rw [l3]; exact hz, fun p hp => ?_⟩
      obtain ⟨bs, r', f⟩ := RDs.rep ra i.toNat
      exact k _ _ (Pres.new hp) ⟨p, _, bs, rfl, hp, upd_same, r'.pres (W := []) (Pres.new hp) (fun _ z => nomatch z) (fun _ _ z => nomatch z), fun a z => inl_of _ (List.mem_cons_of_mem _ (f a z))⟩
    | _ => simp [bopD] at e3
  | _ => cases d2 <;> simp [bopD] at e3
end
end MP
/-! MP.7: comparisons, places, slices, built-ins -/
namespace MP
open PySem PySem.Spec PyProof.Rows L2

mutual
theorem sc_plain : ∀ d : PyData, d.plain = true → sc d = true
  | .none, _ => rfl
  | .bool _, _ => rfl
  | .int _, _ => rfl
  | .str _, _ => rfl
  | .list ds, h => by
    unfold sc
    exact scs_plain ds (by simpa [PyData.plain] using h)
  | .tuple ds, h => by
    unfold sc
    exact scs_plain ds (by simpa [PyData.plain] using h)
  | .dict ds, h => by simp [PyData.plain] at h
theorem scs_plain : ∀ d : List PyData, PyData.plainAll d = true → scs d = true
  | [], _ => rfl
  | d :: ds, h => by
    simp [PyData.plainAll] at h
    unfold scs
    rw [sc_plain d h.1, scs_plain ds h.2]
    rfl
end

section
variable {X : Cx} {pins : List (Addr × Obj)} {σ : L2.St} {H : Hp} {s : Shared}
theorem room_min {a b u c : Nat} (h : a + 1 ≤ 40) (hu : u + 64 < c) : u + 1 + min a b < c := by
  have := Nat.min_le_left a b
  omega
theorem okD_iff {d : PyData} : okD d = true ↔ d.plain = true ∧ d.depth ≤ 40 := by simp [okD]
theorem EPbl {as : List Addr} {Q : VK} {b : Bool} (I : Inv X pins σ H s) (k : ∀ v H', Pres [] H H' → RKrep X.K H H' as v (.dat (.bool b)) → Q v H') : EP X pins σ Q (.bool b) s :=
  ⟨.bl b, H, I, rfl, k _ _ Pres.refl (RKrep.same (.bl _) noA)⟩
/-- a comparison by what the data say -/
theorem op2_cmp {op : CmpOp} (h : ∀ (pins : List (Addr × Obj)) (σ : L2.St) (H : Hp) (s : Shared) (d e : PyData) (x y : V) (v u : Value) (as bs : List Addr) (b : Bool) (Q : Value → Shared → Prop), Inv X pins σ H s → RelV x v → RelV y u → RD X.K H x d as → RD X.K H y e bs → cmpD op d e = some b →
      (∀ s', Inv X pins σ H s' → Q (.bool b) s') → wpAny (model X.prog X.w) X.A (compareOp op v u) Q X.xe s) : OpR X (compareOp op) (Op2 X.K (cmpK op)) := by
  intro pins s σ H x y v u Q I rx ry hh
  obtain ⟨d, e, as, bs, r, d1, d2, e3, k⟩ := hh
  simp only [cmpK, Option.map_eq_some_iff] at e3
  obtain ⟨b, e3, rfl⟩ := e3
  exact h pins σ H s d e x y v u as bs b _ I rx ry d1 d2 e3 fun s' I' => EPbl I' k
theorem op2_eq (hu : X.A.units + 64 < cLine) : OpR X (compareOp .Eq) (Op2 X.K (cmpK .Eq)) := op2_cmp fun pins σ H s d e x y v u as bs b Q I rx ry d1 d2 e3 k => by
  simp only [cmpD] at e3
  split at e3 <;> cases e3
  rename_i h
  simp only [Bool.and_eq_true, okD_iff] at h
  obtain ⟨_, q1⟩ := d1.reads I (sc_plain _ h.1.1) rx
  obtain ⟨_, q2⟩ := d2.reads I (sc_plain _ h.2.1) ry
  exact SeqAt.eq_plain q1 q2 h.1.1 h.2.1 (by have := Nat.min_le_left d.depth e.depth; omega) (k s I)
theorem op2_ne (hu : X.A.units + 64 < cLine) : OpR X (compareOp .NotEq) (Op2 X.K (cmpK .NotEq)) := op2_cmp fun pins σ H s d e x y v u as bs b Q I rx ry d1 d2 e3 k => by
  simp only [cmpD] at e3
  split at e3 <;> cases e3
  rename_i h
  simp only [Bool.and_eq_true, okD_iff] at h
  obtain ⟨_, q1⟩ := d1.reads I (sc_plain _ h.1.1) rx
  obtain ⟨_, q2⟩ := d2.reads I (sc_plain _ h.2.1) ry
  exact SeqAt.ne_plain q1 q2 h.1.1 h.2.1 (by have := Nat.min_le_left d.depth e.depth; omega) (k s I)
theorem ltD_iff {d e : PyData} {r b : Bool} (h : ltD d e r = some b) : W.alike d e = true ∧ (d.plain = true ∧ d.depth ≤ 40) ∧ (e.plain = true ∧ e.depth ≤ 40) ∧ d ≠ .none ∧ r = b := by
  unfold ltD at h
  split at h
  · rename_i q
    simp only [Bool.and_eq_true, okD_iff] at q
    refine ⟨q.1.1.1, q.1.1.2, q.1.2, fun z => ?_, Option.some.inj h⟩
    subst z
    exact absurd q.2 (by simp [nnD])
  · cases h
theorem op2_lt (hu : X.A.units + 64 < cLine) : OpR X (compareOp .Lt) (Op2 X.K (cmpK .Lt)) := op2_cmp fun pins σ H s d e x y v u as bs b Q I rx ry d1 d2 e3 k => by
  obtain ⟨h1, h2, h3, h4, rfl⟩ := ltD_iff e3
  obtain ⟨_, q1⟩ := d1.reads I (sc_plain _ h2.1) rx
  obtain ⟨_, q2⟩ := d2.reads I (sc_plain _ h3.1) ry
  exact W.lt_data q1 q2 h1 h4 (by have := Nat.min_le_left d.depth e.depth; omega) (k s I)
theorem op2_le (hu : X.A.units + 64 < cLine) : OpR X (compareOp .LtE) (Op2 X.K (cmpK .LtE)) := op2_cmp fun pins σ H s d e x y v u as bs b Q I rx ry d1 d2 e3 k => by
  obtain ⟨h1, h2, h3, h4, rfl⟩ := ltD_iff e3
  obtain ⟨_, q1⟩ := d1.reads I (sc_plain _ h2.1) rx
  obtain ⟨_, q2⟩ := d2.reads I (sc_plain _ h3.1) ry
  exact W.le_data q1 q2 h1 h4 (by have := Nat.min_le_left d.depth e.depth; omega) (k s I)
theorem op2_gt (hu : X.A.units + 64 < cLine) : OpR X (compareOp .Gt) (Op2 X.K (cmpK .Gt)) := op2_cmp fun pins σ H s d e x y v u as bs b Q I rx ry d1 d2 e3 k => by
  obtain ⟨h1, h2, h3, h4, rfl⟩ := ltD_iff e3
  obtain ⟨_, q1⟩ := d1.reads I (sc_plain _ h2.1) rx
  obtain ⟨_, q2⟩ := d2.reads I (sc_plain _ h3.1) ry
  exact W.gt_data q1 q2 h1 h4 (by have := Nat.min_le_left d.depth e.depth; omega) (k s I)
theorem op2_ge (hu : X.A.units + 64 < cLine) : OpR X (compareOp .GtE) (Op2 X.K (cmpK .GtE)) := op2_cmp fun pins σ H s d e x y v u as bs b Q I rx ry d1 d2 e3 k => by
  obtain ⟨h1, h2, h3, h4, rfl⟩ := ltD_iff e3
  obtain ⟨_, q1⟩ := d1.reads I (sc_plain _ h2.1) rx
  obtain ⟨_, q2⟩ := d2.reads I (sc_plain _ h3.1) ry
  exact W.ge_data q1 q2 h1 h4 (by have := Nat.min_le_left d.depth e.depth; omega) (k s I)
theorem op2_is : OpR X (compareOp .Is) (Op2 X.K (cmpK .Is)) := op2_cmp fun pins σ H s d e x y v u as bs b Q I rx ry d1 d2 e3 k => by
  cases d2 <;> simp [cmpD] at e3
  cases ry
  refine is_none_gen ?_
  have q : (v == Value.none) = b := by
    rw [rx.none_iff, ← e3]
    cases d1 <;> rfl
  rw [q]
  exact k s I
theorem op2_isnot : OpR X (compareOp .IsNot) (Op2 X.K (cmpK .IsNot)) := op2_cmp fun pins σ H s d e x y v u as bs b Q I rx ry d1 d2 e3 k => by
  cases d2 <;> simp [cmpD] at e3
  cases ry
  refine isnot_none_gen ?_
  have q : (!(v == Value.none)) = b := by
    rw [rx.none_iff, ← e3]
    cases d1 <;> rfl
  rw [q]
  exact k s I

/-! ### dicts -/
theorem lookD_rd {K : PySem.W.Frag} : ∀ {ds : List (PyData × PyData)} {xs : List (Key × V)} {as : List Addr} {k : Key}, RDk K H xs ds as →
    match lookD ds k with
    | some d => ∃ v bs, valV xs k = some v ∧ RD K H v d bs ∧ ∀ a ∈ bs, a ∈ as
    | none => valV xs k = none
  | _, _, _, k, .nil => by unfold lookD; rfl
  | _, _, _, k, @RDk.cons _ _ k' v vs d ds as bs h t => by
    have ih := lookD_rd (k := k) t
    have out : k' ≠ k → valV ((k', v) :: vs) k = valV vs k := fun n => by
      unfold valV
      rw [List.find?_cons_of_neg (by simpa using n)]
    have far : k' ≠ k → lookD ((kD k', d) :: ds) k = lookD ds k := fun n => by
      cases k' with
      | inl i =>
        cases k with
        | inl j => simp only [kD, lookD]; rw [if_neg fun e => n (by rw [e])]
        | inr y => rfl
      | inr x =>
        cases k with
        | inl j => rfl
        | inr y => simp only [kD, lookD]; rw [if_neg fun e => n (by rw [e])]
    by_cases hk : k' = k
    · subst hk
      have e1 : lookD ((kD k', d) :: ds) k' = some d := by cases k' <;> simp [kD, lookD]
      rw [e1]
      exact ⟨v, as, by simp [valV], h, fun a z => List.mem_append_left _ z⟩
    · rw [far hk]
      revert ih
      cases lookD ds k with
      | none => intro ih; simp only at ih ⊢; rw [out hk]; exact ih
      | some d' =>
        intro ih
        obtain ⟨w, cs, e1, r, f⟩ := ih
        exact ⟨w, cs, by rw [out hk]; exact e1, r, fun a z => List.mem_append_right _ (f a z)⟩
theorem look_some {K : PySem.W.Frag} {ds : List (PyData × PyData)} {xs : List (Key × V)} {as : List Addr} {k : Key} (r : RDk K H xs ds as) : (valV xs k).isSome = (lookD ds k).isSome := by
  have q := lookD_rd (k := k) r
  cases e : lookD ds k with
  | none => rw [e] at q; simp only at q; rw [q]; rfl
  | some d' => rw [e] at q; obtain ⟨w, _, e, _⟩ := q; rw [e]; rfl
theorem keyOf_rd {K : PySem.W.Frag} {d : PyData} {y : V} {bs : List Addr} {k : Key} (h : RD K H y d bs) (e : keyOf d = some k) : y = kV k := by
  cases h <;> simp [keyOf] at e
  · subst e; rfl
  · subst e; rfl
theorem op2_in (hu : X.A.units + 64 < cLine) : OpR X (compareOp .In) (Op2 X.K (cmpK .In)) := op2_cmp fun pins σ H s d e x y v u as bs b Q I rx ry d1 d2 e3 k => by
  simp only [cmpD] at e3
  cases d2 with
  | lst h2 r2 =>
    simp only [inD] at e3
    split at e3 <;> cases e3
    rename_i h
    simp only [Bool.and_eq_true, okD_iff] at h
    obtain ⟨_, q1⟩ := d1.reads I (sc_plain _ h.1.1) rx
    obtain ⟨_, q2⟩ := (RD.lst h2 r2).reads I (sc_plain _ h.2.1) ry
    exact SeqAt.in_list_data q2 q1 (by simpa [PyData.plain] using h.2.1) h.1.1 (room_min (by simpa only [PyData.depth] using h.2.2) hu) (k s I)
  | tup h2 r2 =>
    simp only [inD] at e3
    split at e3 <;> cases e3
    rename_i h
    simp only [Bool.and_eq_true, okD_iff] at h
    obtain ⟨_, q1⟩ := d1.reads I (sc_plain _ h.1.1) rx
    obtain ⟨_, q2⟩ := (RD.tup h2 r2).reads I (sc_plain _ h.2.1) ry
    exact SeqAt.in_tuple_data q2 q1 (by simpa [PyData.plain] using h.2.1) h.1.1 (room_min (by simpa only [PyData.depth] using h.2.2) hu) (k s I)
  | scr h2 r2 => simp [inD, sck] at e3
  | @dic a xs ds as h2 r2 =>
    simp only [inD] at e3
    split at e3
    · obtain ⟨kk, ek, rfl⟩ := Option.map_eq_some_iff.mp e3
      have hy := keyOf_rd d1 ek
      subst hy
      cases ry
      refine d_in (by omega) I (.inl ⟨xs, kk, .inl h2, rfl, rfl⟩) rx fun s' I' => ?_
      rw [look_some r2]
      exact k s' I'
    · cases e3
  | _ => simp [inD] at e3
theorem op2_notin (hu : X.A.units + 64 < cLine) : OpR X (compareOp .NotIn) (Op2 X.K (cmpK .NotIn)) := op2_cmp fun pins σ H s d e x y v u as bs b Q I rx ry d1 d2 e3 k => by
  simp only [cmpD] at e3
  obtain ⟨b', e5, e6⟩ := Option.map_eq_some_iff.mp e3
  clear e3
  have e3 := e5
  subst e6
  cases d2 with
  | lst h2 r2 =>
    simp only [inD] at e3
    split at e3 <;> cases e3
    rename_i h
    simp only [Bool.and_eq_true, okD_iff] at h
    obtain ⟨_, q1⟩ := d1.reads I (sc_plain _ h.1.1) rx
    obtain ⟨_, q2⟩ := (RD.lst h2 r2).reads I (sc_plain _ h.2.1) ry
    exact SeqAt.notIn_list_data q2 q1 (by simpa [PyData.plain] using h.2.1) h.1.1 (room_min (by simpa only [PyData.depth] using h.2.2) hu) (k s I)
  | tup h2 r2 =>
    simp only [inD] at e3
    split at e3 <;> cases e3
    rename_i h
    simp only [Bool.and_eq_true, okD_iff] at h
    obtain ⟨_, q1⟩ := d1.reads I (sc_plain _ h.1.1) rx
    obtain ⟨_, q2⟩ := (RD.tup h2 r2).reads I (sc_plain _ h.2.1) ry
    exact SeqAt.notIn_tuple_data q2 q1 (by simpa [PyData.plain] using h.2.1) h.1.1 (room_min (by simpa only [PyData.depth] using h.2.2) hu) (k s I)
  | scr h2 r2 => simp [inD, sck] at e3
  | @dic a xs ds as h2 r2 =>
    simp only [inD] at e3
    split at e3
    · obtain ⟨kk, ek, rfl⟩ := Option.map_eq_some_iff.mp e3
      have hy := keyOf_rd d1 ek
      subst hy
      cases ry
      refine d_notIn (by omega) I (.inl ⟨xs, kk, .inl h2, rfl, rfl⟩) rx fun s' I' => ?_
      rw [look_some r2]
      exact k s' I'
    · cases e3
  | _ => simp [inD] at e3
end
end MP
/-! MP.8: places, slices, built-ins -/
namespace MP
open PySem PySem.Spec PyProof.Rows L2 PySem.W
section
variable {prog : Program} {w : World} {A : Around} {E : Value → Shared → Prop} {s : Shared}
theorem collect_tp {l : Addr} {vs : List Value} {Q : List Value → Shared → Prop} (ht : IsTup s.heap l vs.toArray)
    (h : Q vs { s with heap := (s.heap.push (seqObj "list" #[] 0)).update s.heap.objs.size (Obj.mapSeq (· ++ vs.toArray)) }) (hsz : vs.length ≤ sizeLine) : wpAny (model prog w) A (collect (.ref l)) Q E s := by
  obtain ⟨o, ho, hc, n, hd⟩ := id ht
  unfold collect
  refine wpAny_bind (wpAny_runValue (codeAny_builtin entry_proto_collect' ?_)); show wpAny _ _ (do again (.builtin "list.__iadd__" ⟨[← newList [], .ref l], []⟩)) _ _ s
  refine wpAny_bind (wpAny_newList (wpAny_pure ⟨Code.quiet_builtin _ (by decide +kernel), codeAny_builtin entry_list_iadd' ?_⟩)); show wpAny _ _ (Builtin.List.listExtendWith (.ref s.heap.objs.size) (.ref l) (.ref s.heap.objs.size)) _ _ { s with heap := s.heap.push (seqObj "list" #[] 0) }
  unfold Builtin.List.listExtendWith
  have ho2 := Heap.get?_push_of_some (seqObj "list" #[] 0) ho
  refine wpAny_bind (wpAny_typeOf (T := "tuple") ⟨o, ho2, hc⟩ ?_)
  have hy : (Value.type "tuple" == Value.type "tuple") = true := by rfl
  rw [if_pos (by rw [hy]; simp)]
  refine wpAny_bind (listItems_at ho2 hd (wpAny_bind (listItems_at (xs := #[]) (n := 0) (Heap.get?_push_size _ rfl) rfl ?_)))
  rw [if_neg (by simp)]
  refine wpAny_bind (listUpdate_at (xs := #[]) (n := 0) (Heap.get?_push_size _ rfl) rfl ?_ (Nat.zero_le _) (by show (#[] ++ vs.toArray).size ≤ sizeLine + 1; simp only [Array.size_append, List.size_toArray, List.length_nil]; omega))
  refine wpAny_pure (show wpAny (model prog w) A (do
      let o ← load s.heap.objs.size
      match o.data with
        | .seq xs _ => pure xs.toList
        | _ => unsupported "internal:collect") Q E { s with heap := (s.heap.push (seqObj "list" #[] 0)).update s.heap.objs.size (Obj.mapSeq (· ++ vs.toArray)) } from ?_)
  refine wpAny_bind (wpAny_load (get?_update_seq (Heap.get?_push_size _ rfl) _) ?_); show wpAny _ _ (pure ((#[] : Array Value) ++ vs.toArray).toList) Q E _
  rw [show ((#[] : Array Value) ++ vs.toArray).toList = vs by simp]; exact wpAny_pure h
/-- sorted of a tuple -/
theorem sorted_tp {β : Type} {vs : List Value} {bs : List β} {enc : β → PyData} {R : Value → β → Prop} {l : Addr} {Q : Value → Shared → Prop} (ht : IsTup s.heap l vs.toArray) (e : EachIs R vs bs) (er : EachIs (fun v b => ∃ as, Reads s.heap v (enc b) as) vs bs) (hal : AllAlike (bs.map enc)) (hk : Sortable (bs.map enc)) (hL : bs.length ≤ sizeLine)
    (hu : ∀ b, b ∈ bs → A.units + 2 + (enc b).depth < cLine) (h : ∀ out, out.length = bs.length → EachIs R out (bs.mergeSort (dataLe false enc)) → Q (.ref (s.heap.objs.size + 1)) { s with heap := sortedAll s.heap vs (List.toArray out) }) : wpAny (model prog w) A (call (.builtin "sorted") [.ref l]) Q E s := by
  have hL' : vs.length ≤ sizeLine := by rw [e.length]; exact hL
  have er' : EachIs (fun v b => ∃ as, Reads (sortingHeap (copyHeap s.heap vs) (s.heap.objs.size + 1) vs) v (enc b) as) vs bs := er.mono fun _ _ ⟨as, r⟩ => ⟨as, Reads.keeps (fun _ _ => sorting_copy_old) r⟩
  have S := SortsAt.data (prog := prog) (w := w) (A := A.in1.in1) (s := { s with heap := sortingHeap (copyHeap s.heap vs) (s.heap.objs.size + 1) vs }) (each_map (R := fun v d => ∃ as, Reads (sortingHeap (copyHeap s.heap vs) (s.heap.objs.size + 1) vs) v d as) enc er') hal hk (bound_map hu)
  have fin := h _ (by rw [sortVals_length false rfl]; exact e.length) (sortVals_data false e er' hal)
  refine call_function_entry_kw kind_sorted plain_sorted entry_sorted (args_sorted1 _) ?_
  unfold Builtin.«sorted»
  refine wpAny_bind (m := checkCount "sorted" 1 1 _) (wpAny_pure (wpAny_bind (collect_tp ht (wpAny_bind (wpAny_newList ?_ hL')) hL')))
  have hsz : ((s.heap.push (seqObj "list" #[] 0)).update s.heap.objs.size (Obj.mapSeq (· ++ vs.toArray))).objs.size = s.heap.objs.size + 1 := by rw [Heap.size_update, size_push']
  show wpAny _ _ _ _ _ { s with heap := copyHeap s.heap vs }
  rw [hsz]
  refine wpAny_bind (wpAny_holding (wpAny_call_entry_kw slot_list_sort ⟨_, copyHeap_at s.heap vs, rfl⟩ entry_list_sort ?body (args_list_sort _)))
  case body =>
    refine wpAny_mono (list_sort_vals (s := { s with heap := copyHeap s.heap vs }) (P := fun f s' => f = .done (.ret .none) ∧ Q (.ref (s.heap.objs.size + 1)) s') (copyHeap_at s.heap vs) S hL' ⟨rfl, fin⟩) (fun f s' hf => ?_) fun _ _ e => e
    obtain ⟨rfl, hq⟩ := hf
    exact ⟨_, rfl, wpAny_pure ⟨_, rfl, hq⟩⟩
end
end MP
namespace MP
open PySem PySem.Spec PyProof.Rows L2

mutual
theorem noDict_plain : ∀ d : PyData, d.plain = true → d.hasDict = false
  | .none, _ => rfl
  | .bool _, _ => rfl
  | .int _, _ => rfl
  | .str _, _ => rfl
  | .list ds, h => by
    unfold PyData.hasDict
    exact noDicts_plain ds (by simpa [PyData.plain] using h)
  | .tuple ds, h => by
    unfold PyData.hasDict
    exact noDicts_plain ds (by simpa [PyData.plain] using h)
  | .dict ds, h => by simp [PyData.plain] at h
theorem noDicts_plain : ∀ d : List PyData, PyData.plainAll d = true → PyData.hasDictAll d = false
  | [], _ => rfl
  | d :: ds, h => by
    simp [PyData.plainAll] at h
    unfold PyData.hasDictAll
    rw [noDict_plain d h.1, noDicts_plain ds h.2]
    rfl
end
section
variable {X : Cx} {pins : List (Addr × Obj)} {σ : L2.St} {H : Hp} {s : Shared}
theorem atI_rd {K : PySem.W.Frag} {ds : List PyData} {us : List V} {as : List Addr} {i : Int} {d : PyData} (r : RDs K H us ds as) (e : atI ds i = some d) : ∃ u bs, atI us i = some u ∧ RD K H u d bs ∧ ∀ a ∈ bs, a ∈ as := by
  unfold atI at e ⊢
  rw [r.length]
  cases q : ixN ds.length i with
  | none => rw [q] at e; cases e
  | some j =>
    rw [q] at e
    exact r.get (i := j) e
/-- the element of a dict -/
theorem sub_any {value slice : Expr} {o i : Value} {T id : String} {A : Around} {w : World} {prog : Program} {E : Value → Shared → Prop} {Q : Value → Shared → Prop} (hT : s.TypeIs o T) (hl : typeLookup (.type T) "__getitem__" = pure (some (.builtin id)))
    (hs : subscripted slice false o i = operate [o, i] (getItem o i)) (h : wpAny (model prog w) A (getItem o i) Q E s) : wpAny (model prog w) A (subscriptTail value slice o i) Q E s := by
  unfold subscriptTail
  apply wpAny_bind
  rw [getitemInPython_of_ne hT.not_modules]
  apply wpAny_bind
  apply wpAny_specialOf hT hl
  have fin : wpAny (model prog w) A (subscripted slice false o i) (fun r s₃ => wpAny (model prog w) A (letTemporaryGo value o r >>= fun _ => pure r) Q E s₃) E s := by
    rw [hs]
    exact wpAny_operating (thn h fun r s₃ h₃ => wpAny_bind (wpAny_letTemporaryGo (wpAny_pure h₃)))
  first
    | exact wpAny_pure (wpAny_bind fin)
    | exact wpAny_bind fin
theorem ixD_dict {ds : List (PyData × PyData)} {e z : PyData} (h : ixD (.dict ds) e = some z) : ∃ kk, keyOf e = some kk ∧ lookD ds kk = some z := by
  cases e <;> simp [ixD, keyOf] at h ⊢ <;> exact h
theorem ixr (hu : X.A.units + 64 < cLine) : IxR X (Op2 X.K ixK) := by
  intro value slice pins s σ H x y v u Q I rx ry h hs
  obtain ⟨d, e, as, bs, r, d1, d2, e3, k⟩ := h
  simp only [ixK, Option.map_eq_some_iff] at e3
  obtain ⟨z, e3, rfl⟩ := e3
  cases d1 with
  | lst h1 r1 =>
    cases d2 <;> simp [ixD] at e3
    obtain ⟨w, cs, e, r, f⟩ := atI_rd r1 e3
    exact ix_list value slice pins s σ H _ _ v u Q I rx ry ⟨_, _, _, w, rfl, rfl, SqL.of h1, e, k _ _ Pres.refl (RKrep.same r fun a z => inl_of _ (List.mem_cons_of_mem _ (f a z)))⟩ hs
  | tup h1 r1 =>
    cases d2 <;> simp [ixD] at e3
    obtain ⟨w, cs, e, r, f⟩ := atI_rd r1 e3
    exact ix_tup value slice pins s σ H _ _ v u Q I rx ry ⟨_, _, _, w, rfl, rfl, h1.sqt, e, k _ _ Pres.refl (RKrep.same r fun a z => inl_of _ (f a z))⟩ hs
  | str t =>
    cases d2 <;> simp [ixD] at e3
    obtain ⟨hz, c, e, rfl⟩ := e3
    exact ix_str value slice pins s σ H _ _ v u Q I rx ry ⟨_, _, c, rfl, rfl, hz, e, k _ _ Pres.refl (RKrep.same (.str _) noA)⟩ hs
  | @dic a xs ds as h1 r1 =>
    have e4 := ixD_dict e3
    obtain ⟨kk, ek, e5⟩ := e4
    have hy := keyOf_rd d2 ek
    subst hy
    cases rx
    have q := lookD_rd (k := kk) r1
    rw [e5] at q
    obtain ⟨w, cs, e6, r, f⟩ := q
    have g : DGet H a (kV kk) (some w) := .inl ⟨xs, kk, .inl h1, rfl, e6.symm⟩
    exact sub_any (dict_typeIs I g) PySem.F.slot_dict_getitem.lookup hs (d_getItem (by omega) I g ry fun w' s' I' r' => ⟨w, H, I', r', k _ _ Pres.refl (RKrep.same r fun a z => inl_of _ (List.mem_cons_of_mem _ (f a z)))⟩)
  | scr h1 r1 =>
    exfalso
    obtain ⟨kk, ek, e5⟩ := ixD_dict e3
    cases kk <;> simp [lookD] at e5
  | _ => cases d2 <;> simp [ixD] at e3

/-! ### slices -/
theorem cut_rd {K : PySem.W.Frag} {ds : List PyData} {us : List V} {as : List Addr} (lo hi : Option Int) (r : RDs K H us ds as) : ∃ bs, RDs K H (cutV us lo hi) (cutD ds lo hi) bs ∧ ∀ a ∈ bs, a ∈ as := by
  unfold cutV cutD
  rw [r.length]
  obtain ⟨bs, r1, f1⟩ := r.drop (HT.sIx ds.length 0 lo)
  obtain ⟨cs, r2, f2⟩ := r1.take (HT.sIx ds.length ds.length hi - HT.sIx ds.length 0 lo)
  exact ⟨cs, r2, fun a z => f1 a (f2 a z)⟩
def Sl2 (K : PySem.W.Frag) : V → Option Int → Option Int → Hp → VK → Prop := fun x lo hi H Q => ∃ d as r, RD K H x d as ∧ slD d lo hi = some r ∧ ∀ v H', Pres [] H H' → RKrep K H H' as v r → Q v H'

/-! ### calls of built-ins -/
def CallN (K : PySem.W.Frag) (g : List PyData → Option RK) : List V → Hp → VK → Prop := fun xs H Q => ∃ ds as r, RDs K H xs ds as ∧ g ds = some r ∧ ∀ v H', Pres [] H H' → RKrep K H H' as v r → Q v H'
theorem RDs.one {K : PySem.W.Frag} {xs : List V} {d : PyData} {as : List Addr} (r : RDs K H xs [d] as) : ∃ x, xs = [x] ∧ RD K H x d as := by
  cases r with
  | cons h t =>
    cases t
    rw [List.append_nil]
    exact ⟨_, rfl, h⟩

def rSlN (K : PySem.W.Frag) : V → Option Int → Option Int → Hp → VK → Prop := fun x lo hi H Q => ∃ a xs, x = .ref a ∧ SqT K H a xs ∧
  (HT.sIx xs.length 0 lo = 0 ∧ HT.sIx xs.length xs.length hi = xs.length → Q (.ref a) H) ∧ NT Q H (cutV xs lo hi)
theorem sl_tupN : SlR X (rSlN X.K) := by
  intro pins s σ H x v vl vu lo hi sl Q I rx hs pl pu h
  obtain ⟨a, xs, rfl, hx, q1, q2⟩ := h
  by_cases hw : HT.sIx xs.length 0 lo = 0 ∧ HT.sIx xs.length xs.length hi = xs.length
  · exact sl_tupA pins s σ H _ v vl vu lo hi sl Q I rx hs pl pu ⟨a, xs, rfl, hx, q1, fun e => absurd hw e⟩
  · cases rx
    obtain ⟨its, r, ht, hz⟩ := I.tuple hx
    have hlen : its.toArray.size = xs.length := by rw [List.size_toArray]; exact r.length.symm
    refine ⟨"tuple", _, PyProof.Rows.slot_tuple_getitem.lookup, ht.typeIs, HT.getItem_tuple_cut ht hs pl pu (by rw [hlen]; exact hw) ?_ (by rw [hlen]; exact hz)⟩
    rw [hlen]
    exact endT I (Nat.le_trans (cutV_length xs lo hi) hz) ((r.drop _).take _) q2
theorem slr : SlR X (Sl2 X.K) := by
  intro pins s σ H x v vl vu lo hi sl Q I rx hs pl pu h
  obtain ⟨d, as, r, d1, e, k⟩ := h
  cases d1 with
  | lst h1 r1 =>
    simp [slD] at e
    subst e
    obtain ⟨bs, r2, f⟩ := cut_rd lo hi r1
    exact sl_list pins s σ H _ v vl vu lo hi sl Q I rx hs pl pu ⟨_, _, rfl, SqL.of h1, fun p hp => k _ _ (Pres.new hp) ⟨p, _, bs, rfl, hp, upd_same, r2.pres (W := []) (Pres.new hp) (fun _ z => nomatch z) (fun _ _ z => nomatch z), fun a z => List.mem_cons_of_mem _ (f a z)⟩⟩
  | scr h1 r1 =>
    simp [slD] at e
    subst e
    obtain ⟨bs, r2, f⟩ := cut_rd lo hi r1
    exact sl_list pins s σ H _ v vl vu lo hi sl Q I rx hs pl pu ⟨_, _, rfl, h1.sql, fun p hp => k _ _ (Pres.new hp) ⟨p, _, bs, rfl, hp, upd_same, r2.pres (W := []) (Pres.new hp) (fun _ z => nomatch z) (fun _ _ z => nomatch z), fun a z => f a z⟩⟩
  | @tup a1 xs1 ds1 as1 h1 r1 =>
    simp [slD] at e
    subst e
    obtain ⟨bs, r2, f⟩ := cut_rd lo hi r1
    refine sl_tupN pins s σ H _ v vl vu lo hi sl Q I rx hs pl pu ⟨_, _, rfl, h1.sqt, fun e => ?_, fun p o hp hd => ?_⟩
    · refine k _ _ Pres.refl ⟨_, ?_, fun a z => z⟩
      have w : cutD ds1 lo hi = ds1 := by
        unfold cutD
        rw [r1.length] at e
        rw [e.1, e.2, List.drop_zero, Nat.sub_zero, List.take_length]
      rw [w]
      exact .tup h1 r1
    · exact k _ _ (Pres.new hp) ⟨bs, .tup (SqN.new hd) (r2.pres (W := []) (Pres.new hp) (fun _ z => nomatch z) (fun _ _ z => nomatch z)), f⟩
  | dic h1 r1 =>
    exfalso
    cases r1 with
    | nil => simp [slD] at e
    | @cons kk _ _ _ _ _ _ r2 t => cases kk <;> simp [slD, kD] at e
  | _ => simp [slD] at e

theorem asInts_rd {K : PySem.W.Frag} : ∀ {ds : List PyData} {us : List V} {as : List Addr} {ns : List Int}, RDs K H us ds as → asInts ds = some ns → us = ns.map V.int
  | [], _, _, _, .nil, e => by cases e; rfl
  | d :: ds, _, _, ns, .cons h t, e => by
    cases h <;> simp [asInts] at e
    obtain ⟨ms, e, rfl⟩ := e
    rw [asInts_rd t e]
    rfl
theorem asBools_rd {K : PySem.W.Frag} : ∀ {ds : List PyData} {us : List V} {as : List Addr} {ns : List Bool}, RDs K H us ds as → asBools ds = some ns → us = ns.map V.bl
  | [], _, _, _, .nil, e => by cases e; rfl
  | d :: ds, _, _, ns, .cons h t, e => by
    cases h <;> simp [asBools] at e
    obtain ⟨ms, e, rfl⟩ := e
    rw [asBools_rd t e]
    rfl
theorem cn_len : CallR X (.builtin "len") (CallN X.K (biD .len)) := by
  intro pins s σ H xs us Q I r h
  obtain ⟨ds, as, rk, rd, e, k⟩ := h
  match ds, rd, e with
  | [d], rd, e =>
    obtain ⟨x, rfl, d1⟩ := rd.one
    cases d1 with
    | lst h1 r1 =>
      simp [biD] at e
      subst e
      rw [← r1.length] at k
      exact call_len_seq pins s σ H _ us Q I r ⟨_, _, rfl, .inl (SqL.of h1), k _ _ Pres.refl (RKrep.same (.int _) noA)⟩
    | tup h1 r1 =>
      simp [biD] at e
      subst e
      rw [← r1.length] at k
      exact call_len_seq pins s σ H _ us Q I r ⟨_, _, rfl, .inr h1.sqt, k _ _ Pres.refl (RKrep.same (.int _) noA)⟩
    | scr h1 r1 =>
      simp [biD] at e
      subst e
      rw [← r1.length] at k
      exact call_len_seq pins s σ H _ us Q I r ⟨_, _, rfl, .inl h1.sql, k _ _ Pres.refl (RKrep.same (.int _) noA)⟩
    | str z =>
      simp [biD] at e
      obtain ⟨hz, rfl⟩ := e
      exact call_len_str pins s σ H _ us Q I r ⟨_, rfl, hz, k _ _ Pres.refl (RKrep.same (.int _) noA)⟩
    | dic h1 r1 =>
      exfalso
      cases r1 with
      | nil => simp [biD] at e
      | @cons kk _ _ _ _ _ _ r2 t => cases kk <;> simp [biD, kD] at e
    | _ => simp [biD] at e
  | [], _, e => simp [biD] at e
  | _ :: _ :: _, _, e => simp [biD] at e
theorem cn_int : CallR X (.type "int") (CallN X.K (biD .int)) := by
  intro pins s σ H xs us Q I r h
  obtain ⟨ds, as, rk, rd, e, k⟩ := h
  match ds, rd, e with
  | [d], rd, e =>
    obtain ⟨x, rfl, d1⟩ := rd.one
    cases d1 <;> simp [biD] at e
    · subst e
      exact call_int1 pins s σ H _ us Q I r (.inr ⟨_, rfl, k _ _ Pres.refl (RKrep.same (.int _) noA)⟩)
    · subst e
      exact call_int1 pins s σ H _ us Q I r (.inl ⟨_, rfl, k _ _ Pres.refl (RKrep.same (.int _) noA)⟩)
  | [], _, e => simp [biD] at e
  | _ :: _ :: _, _, e => simp [biD] at e
theorem cn_abs : CallR X (.builtin "abs") (CallN X.K (biD .abs)) := by
  intro pins s σ H xs us Q I r h
  obtain ⟨ds, as, rk, rd, e, k⟩ := h
  match ds, rd, e with
  | [d], rd, e =>
    obtain ⟨x, rfl, d1⟩ := rd.one
    have q : ∀ i : Int, (if i < 0 then -i else i) = ((i.natAbs : Nat) : Int) := fun i => by split <;> omega
    cases d1 <;> simp [biD] at e
    subst e
    refine call_abs pins s σ H _ us Q I r ⟨_, rfl, ?_⟩
    rw [q]
    exact k _ _ Pres.refl (RKrep.same (.int _) noA)
  | [], _, e => simp [biD] at e
  | _ :: _ :: _, _, e => simp [biD] at e
theorem cn_tuple : CallR X (.type "tuple") (CallN X.K (biD .tuple)) := by
  intro pins s σ H xs us Q I r h
  obtain ⟨ds, as, rk, rd, e, k⟩ := h
  match ds, rd, e with
  | [d], rd, e =>
    obtain ⟨x, rfl, d1⟩ := rd.one
    cases d1 with
    | lst h1 r1 =>
      simp [biD] at e
      subst e
      obtain ⟨u, rfl, rx⟩ := vals1 r
      cases rx
      obtain ⟨its, r', pl, hz⟩ := I.list (SqL.of h1)
      have hl := r'.length
      refine call_tuple_list pl.isList (fun h' kp => ?_) (by rw [List.size_toArray]; omega)
      exact endT (s := { s with heap := h' }) (I.kept (t' := s.toks) kp) hz r' fun l o hl hd => k _ _ (Pres.new hl) ⟨_, .tup (SqN.new hd) (r1.pres (W := []) (Pres.new hl) (fun _ z => nomatch z) (fun _ _ z => nomatch z)), fun a z => List.mem_cons_of_mem _ z⟩
    | tup h1 r1 =>
      simp [biD] at e
      subst e
      exact call_tuple_of pins s σ H _ us Q I r ⟨_, _, rfl, .inr ⟨h1.sqt, k _ _ Pres.refl (RKrep.same (.tup h1 r1) fun a z => z)⟩⟩
    | _ => simp [biD] at e
  | [], _, e => simp [biD] at e
  | _ :: _ :: _, _, e => simp [biD] at e
theorem cn_list : CallR X (.type "list") (CallN X.K (biD .list)) := by
  intro pins s σ H xs us Q I r h
  obtain ⟨ds, as, rk, rd, e, k⟩ := h
  match ds, rd, e with
  | [d], rd, e =>
    obtain ⟨x, rfl, d1⟩ := rd.one
    cases d1 with
    | lst h1 r1 =>
      simp [biD] at e
      subst e
      exact call_list_of pins s σ H _ us Q I r ⟨_, _, rfl, .inl (SqL.of h1), fun l hl => k _ _ (Pres.new hl) ⟨l, _, _, rfl, hl, upd_same, r1.pres (W := []) (Pres.new hl) (fun _ z => nomatch z) (fun _ _ z => nomatch z), fun a z => List.mem_cons_of_mem _ z⟩⟩
    | tup h1 r1 =>
      simp [biD] at e
      subst e
      exact call_list_of pins s σ H _ us Q I r ⟨_, _, rfl, .inr h1.sqt, fun l hl => k _ _ (Pres.new hl) ⟨l, _, _, rfl, hl, upd_same, r1.pres (W := []) (Pres.new hl) (fun _ z => nomatch z) (fun _ _ z => nomatch z), fun a z => z⟩⟩
    | _ => simp [biD] at e
  | [], _, e => simp [biD] at e
  | _ :: _ :: _, _, e => simp [biD] at e
theorem cn_sum (hc : X.calm = true) : CallR X (.builtin "sum") (CallN X.K (biD .sum)) := by
  intro pins s σ H xs us Q I r h
  obtain ⟨ds, as, rk, rd, e, k⟩ := h
  match ds, rd, e with
  | [d], rd, e =>
    obtain ⟨x, rfl, d1⟩ := rd.one
    cases d1 with
    | lst h1 r1 =>
      simp [biD] at e
      obtain ⟨ns, e', rfl⟩ := e
      rw [asInts_rd r1 e'] at h1
      exact cr_sum hc pins s σ H _ us Q I r ⟨_, ns, rfl, SqL.of h1, k _ _ Pres.refl (RKrep.same (.int _) noA)⟩
    | _ => simp [biD] at e
  | [], _, e => simp [biD] at e
  | _ :: _ :: _, _, e => simp [biD] at e
theorem cn_all (hc : X.calm = true) : CallR X (.builtin "all") (CallN X.K (biD .all)) := by
  intro pins s σ H xs us Q I r h
  obtain ⟨ds, as, rk, rd, e, k⟩ := h
  match ds, rd, e with
  | [d], rd, e =>
    obtain ⟨x, rfl, d1⟩ := rd.one
    cases d1 with
    | lst h1 r1 =>
      simp [biD] at e
      obtain ⟨ns, e', rfl⟩ := e
      rw [asBools_rd r1 e'] at h1
      exact cr_all hc pins s σ H _ us Q I r ⟨_, ns, rfl, SqL.of h1, k _ _ Pres.refl (RKrep.same (.bl _) noA)⟩
    | _ => simp [biD] at e
  | [], _, e => simp [biD] at e
  | _ :: _ :: _, _, e => simp [biD] at e
theorem depth0 {d : PyData} (h : d.depth ≤ 40) {u : Nat} (hu : u + 64 < cLine) : u + (d.depth + 1) < cLine := by omega
theorem cn_repr (hg : X.A.guards = some []) (hu : X.A.units + 64 < cLine) : CallR X (.builtin "repr") (CallN X.K (biD .repr)) := by
  intro pins s σ H xs us Q I r h
  obtain ⟨ds, as, rk, rd, e, k⟩ := h
  match ds, rd, e with
  | [d], rd, e =>
    obtain ⟨x, rfl, d1⟩ := rd.one
    obtain ⟨u, rfl, ru⟩ := vals1 r
    simp only [biD] at e
    split at e <;> cases e
    rename_i hq
    simp only [Bool.and_eq_true, decide_eq_true_eq, Bool.not_eq_true'] at hq
    have hsc : sc d = true := sc_plain d hq.2
    obtain ⟨bs, q⟩ := d1.reads I hsc ru
    have fin : ∀ (h' : Heap) (t : Tok) (tk : Nat), (∀ b o, s.heap.get? b = some o → h'.get? b = some o) → EP X pins σ Q (.str d.shown t) { s with heap := h', toks := tk } := fun h' t tk hk =>
      ⟨.str _, H, I.kept hk, ⟨t, rfl⟩, k _ _ Pres.refl (RKrep.same (.str _) noA)⟩
    cases q with
    | none => exact PySem.P.repr_of_none (fin _ _ _ fun _ _ z => z)
    | bool b => exact PySem.P.repr_of_bool (fin _ _ _ fun _ _ z => z)
    | int i t => exact PySem.P.repr_of_int (by simpa [PyData.showable] using hq.1.1.1) (fin _ _ _ fun _ _ z => z)
    | str z t => exact PySem.P.repr_of_str (fin _ _ _ fun _ _ z => z) (by simpa [PyData.shown] using hq.1.2)
    | list a1 a2 a3 a4 => exact repr_of_reads' (Reads.list a1 a2 a3 a4) hq.1.1.1 (fun z => by rw [noDict_plain _ hq.2] at z; cases z) hg (depth0 hq.1.1.2 hu) (fun _ _ z => z) (fun h' t tk hk => fin h' t tk hk) hq.1.2
    | tuple a1 a2 a3 a4 => exact repr_of_reads' (Reads.tuple a1 a2 a3 a4) hq.1.1.1 (fun z => by rw [noDict_plain _ hq.2] at z; cases z) hg (depth0 hq.1.1.2 hu) (fun _ _ z => z) (fun h' t tk hk => fin h' t tk hk) hq.1.2
    | dict a1 a2 a3 a4 a5 => exact absurd hq.2 (by simp [PyData.plain])
  | [], _, e => simp [biD] at e
  | _ :: _ :: _, _, e => simp [biD] at e

theorem sortable_iff {ds : List PyData} (h : sortable ds = true) : (∀ d ∈ ds, d.plain = true ∧ d.depth ≤ 40) ∧ W.AllAlike ds ∧ W.Sortable ds := by
  unfold sortable at h
  simp only [Bool.and_eq_true, Bool.or_eq_true, List.all_eq_true] at h
  obtain ⟨⟨h1, h2⟩, h3⟩ := h
  refine ⟨fun d z => okD_iff.mp (h1 d z), fun d z e w => h2 d z e w, ?_⟩
  rcases h3 with h3 | h3
  · left
    intro d z
    have q := h3 d z
    unfold neTup at q
    split at q
    · exact ⟨_, _, rfl⟩
    · cases q
  · right
    intro d z
    have q := h3 d z
    unfold noTup at q
    split at q
    · cases q
    · cases q
    · rename_i a b
      exact ⟨fun e => b e, fun xs e => a xs e⟩
theorem each_of {K : PySem.W.Frag} (I : Inv X pins σ H s) {as : List Addr} : ∀ {ds : List PyData} {us : List V} {its : List Value} {bs : List Addr}, RDs X.K H us ds bs → (∀ a ∈ bs, a ∈ as) → Vals us its → W.EachIs (fun v d => ∃ x cs, RelV x v ∧ RD X.K H x d cs ∧ ∀ a ∈ cs, a ∈ as) its ds
  | _, _, _, _, .nil, _, r => by cases r; exact .nil
  | _, _, _, _, .cons h t, f, r => by
    cases r with
    | cons r1 r2 => exact .cons ⟨_, _, r1, h, fun a z => f a (List.mem_append_left _ z)⟩ (each_of (K := K) I t (fun a z => f a (List.mem_append_right _ z)) r2)
theorem each_back {as : List Addr} : ∀ {ds : List PyData} {its : List Value}, W.EachIs (fun v d => ∃ x cs, RelV x v ∧ RD X.K H x d cs ∧ ∀ a ∈ cs, a ∈ as) its ds → ∃ us bs, Vals us its ∧ RDs X.K H us ds bs ∧ ∀ a ∈ bs, a ∈ as
  | _, _, .nil => ⟨[], [], .nil, .nil, fun _ z => nomatch z⟩
  | _, _, .cons h t => by
    obtain ⟨x, cs, r, d, f⟩ := h
    obtain ⟨us, bs, r', d', f'⟩ := each_back t
    exact ⟨_, _, .cons r r', .cons d d', fun a z => (List.mem_append.mp z).elim (f a) (f' a)⟩
theorem cn_sorted (hu : X.A.units + 64 < cLine) : CallR X (.builtin "sorted") (CallN X.K (biD .sorted)) := by
  intro pins s σ H xs us Q I r h
  obtain ⟨ds, as, rk, rd, e, k⟩ := h
  match ds, rd, e with
  | [d], rd, e =>
    obtain ⟨x, rfl, d1⟩ := rd.one
    obtain ⟨u, rfl, ru⟩ := vals1 r
    cases d1 with
    | @lst a1 xs1 ds1 as1 h1 r1 =>
      simp only [biD] at e
      split at e <;> cases e
      rename_i hq
      simp only [Bool.and_eq_true, decide_eq_true_eq] at hq
      obtain ⟨q1, q2, q3⟩ := sortable_iff hq.1
      cases ru
      obtain ⟨its, rv, hl, hz⟩ := I.list (SqL.of h1)
      have e1 := each_of (K := X.K) I r1 (fun a z => List.mem_cons_of_mem a1 z) rv
      have hlen : its.length = ds1.length := by rw [← rv.length, r1.length]
      refine W.sorted_data (bs := ds1) (enc := id) (vs := its) hl.isList e1 ?_ (by rw [List.map_id]; exact q2) (by rw [List.map_id]; exact q3) hq.2 (fun b z => by have := (q1 b z).2; show X.A.units + 2 + b.depth < cLine; omega) fun out ho eo => ?_
      · have go : ∀ {ds : List PyData} {its : List Value}, (∀ d ∈ ds, d.plain = true ∧ d.depth ≤ 40) → W.EachIs (fun v d => ∃ x cs, RelV x v ∧ RD X.K H x d cs ∧ ∀ a ∈ cs, a ∈ a1 :: as1) its ds → W.EachIs (fun v b => ∃ as, Reads s.heap v (id b) as) its ds := by
          intro ds its hp he
          induction he with
          | nil => exact .nil
          | cons h t ih =>
            obtain ⟨x, cs, r, d, _⟩ := h
            exact .cons (d.reads I (sc_plain _ (hp _ List.mem_cons_self).1) r) (ih fun d z => hp d (List.mem_cons_of_mem _ z))
        exact go q1 e1
      · obtain ⟨ws, bs, rv2, rd2, f2⟩ := each_back eo
        obtain ⟨ep, he'⟩ := PyProof.Rows.sortedAll_at s.heap its out.toArray
        have hn : H (s.heap.objs.size + 1) = none := I.hok.fresh (Nat.le_succ _)
        refine ⟨.ref _, upd H (s.heap.objs.size + 1) (.lst ws), I.laid (t' := s.toks) (fun _ _ => PyProof.Rows.sortedAll_old) (Nat.le_succ _) ⟨by rw [rv2.length, ho]; exact hq.2, out, ep, rv2, he'⟩, rfl, ?_⟩
        exact k _ _ (Pres.new hn) ⟨_, ws, bs, rfl, hn, upd_same, rd2.pres (W := []) (Pres.new hn) (fun _ z => nomatch z) (fun _ _ z => nomatch z), f2⟩
    | @tup a1 xs1 ds1 as1 h1 r1 =>
      simp only [biD] at e
      split at e <;> cases e
      rename_i hq
      simp only [Bool.and_eq_true, decide_eq_true_eq] at hq
      obtain ⟨q1, q2, q3⟩ := sortable_iff hq.1
      cases ru
      obtain ⟨its, rv, hl, hz⟩ := I.tuple h1.sqt
      have e1 := each_of (K := X.K) I r1 (fun a z => z) rv
      have hlen : its.length = ds1.length := by rw [← rv.length, r1.length]
      refine sorted_tp (bs := ds1) (enc := id) (vs := its) hl e1 ?_ (by rw [List.map_id]; exact q2) (by rw [List.map_id]; exact q3) hq.2 (fun b z => by have := (q1 b z).2; show X.A.units + 2 + b.depth < cLine; omega) fun out ho eo => ?_
      · have go : ∀ {ds : List PyData} {its : List Value}, (∀ d ∈ ds, d.plain = true ∧ d.depth ≤ 40) → W.EachIs (fun v d => ∃ x cs, RelV x v ∧ RD X.K H x d cs ∧ ∀ a ∈ cs, a ∈ as) its ds → W.EachIs (fun v b => ∃ as, Reads s.heap v (id b) as) its ds := by
          intro ds its hp he
          induction he with
          | nil => exact .nil
          | cons h t ih =>
            obtain ⟨x, cs, r, d, _⟩ := h
            exact .cons (d.reads I (sc_plain _ (hp _ List.mem_cons_self).1) r) (ih fun d z => hp d (List.mem_cons_of_mem _ z))
        exact go q1 e1
      · obtain ⟨ws, bs, rv2, rd2, f2⟩ := each_back eo
        obtain ⟨ep, he'⟩ := PyProof.Rows.sortedAll_at s.heap its out.toArray
        have hn : H (s.heap.objs.size + 1) = none := I.hok.fresh (Nat.le_succ _)
        refine ⟨.ref _, upd H (s.heap.objs.size + 1) (.lst ws), I.laid (t' := s.toks) (fun _ _ => PyProof.Rows.sortedAll_old) (Nat.le_succ _) ⟨by rw [rv2.length, ho]; exact hq.2, out, ep, rv2, he'⟩, rfl, ?_⟩
        exact k _ _ (Pres.new hn) ⟨_, ws, bs, rfl, hn, upd_same, rd2.pres (W := []) (Pres.new hn) (fun _ z => nomatch z) (fun _ _ z => nomatch z), f2⟩
    | _ => simp [biD] at e
  | [], _, e => simp [biD] at e
  | _ :: _ :: _, _, e => simp [biD] at e
end
end MP
/-! MP.9: a def's promise, where no text of a thing is being made around it -/
namespace MP
open PySem PySem.Spec PyProof.Rows L2

structure FnG (P : Program) (w : World) (K : PySem.W.Frag) (mg : Str → Option Value) (base : Heap) (k : Nat) (f : Addr) (fd : FuncData) (ps : List Str) (sp : Sp) : Prop where
  len : ∀ vs H Q E, sp vs H Q E → vs.length = ps.length
  run : ∀ (A : Around) (outer : List Env) (s : Shared) (H : Hp) (args : Args) (us : List Value) (vs : List V) (Q : VK) (E : XK), Room k A → A.guards = some [] → Env0 P w K mg base A outer s H → BindsTo s fd args (ps.zip us) → Vals vs us → sp vs H Q E →
    codeAny (model P w) A (.call (.ref f) args) (CR (L2.CX P w) outer P w H s Q E) s
theorem FnG.imp {P : Program} {w : World} {K : PySem.W.Frag} {mg : Str → Option Value} {base : Heap} {k : Nat} {f : Addr} {fd : FuncData} {ps : List Str} {sp sp' : Sp} (F : FnG P w K mg base k f fd ps sp) (h : ∀ vs H Q E, sp' vs H Q E → sp vs H Q E) :
    FnG P w K mg base k f fd ps sp' := ⟨fun vs H Q E q => F.len vs H Q E (h _ _ _ _ q), fun A outer s H args us vs Q E hr hg he hb hv hs => F.run A outer s H args us vs Q E hr hg he hb hv (h _ _ _ _ hs)⟩

section
variable {X : Cx} {k : Nat} {f : Addr} {fd : FuncData} {ps : List Str} {sp : Sp} {W : WX}
/-- the callee runs; args: as they are handed over, us: as the parameters get them -/
theorem run_fnG {pins : List (Addr × Obj)} {σ : L2.St} {H : Hp} {s : Shared} {Q : VK} {us : List Value} {vs : List V} {args : Args} (F : FnG X.prog X.w X.K X.mg X.base k f fd ps sp) (hr : Room k X.A) (hg : X.A.guards = some []) (tk : Takes X W)
    (I : Inv X pins σ H s) (hb : BindsTo s fd args (ps.zip us)) (r : Vals vs us) (h : sp vs H Q (fun cl d H' => W cl d σ H')) : codeAny (model X.prog X.w) X.A (.call (.ref f) args) (fun r s' => match r with
      | .ok (.ret u) => EP X pins σ Q u s'
      | .ok _ => False
      | .error e => X.xe e s') s := by
  refine codeAny_mono (F.run X.A X.stack s H args us vs Q (fun cl d H' => W cl d σ H') hr hg I.env0 hb r h) fun r s' hq => ?_
  cases r with
  | error e => exact passAt tk σ pins H s e s' I hq
  | ok fl =>
    cases fl with
    | ret u => exact I.after hq
    | next => exact False.elim hq
    | brk => exact False.elim hq
    | cont => exact False.elim hq
theorem call_fnG {pins : List (Addr × Obj)} {σ : L2.St} {H : Hp} {s : Shared} {Q : VK} {us : List Value} {vs : List V} (F : FnG X.prog X.w X.K X.mg X.base k f fd ps sp) (hr : Room k X.A) (hg : X.A.guards = some []) (tk : Takes X W) (hb : Binds X.K fd ps [])
    (I : Inv X pins σ H s) (r : Vals vs us) (h : sp vs H Q (fun cl d H' => W cl d σ H')) : wpAny (model X.prog X.w) X.A (call (.ref f) us) (EP X pins σ Q) X.xe s := by
  have hl : us.length = ps.length := by rw [← r.length]; exact F.len _ _ _ _ h
  have b := hb s us I.kIn (by rw [List.append_nil]; exact hl)
  rw [List.append_nil] at b
  refine wpAny_call (codeAny_mono (run_fnG F hr hg tk I b r h) fun r s' hq => ?_)
  cases r with
  | error e => exact hq
  | ok fl => cases fl <;> exact hq
end

/-- a def by its body -/
theorem fn_ofG {P : Program} {w : World} {K : PySem.W.Frag} {mg : Str → Option Value} {base : Heap} {k : Nat} {f : Addr} {x qual : Str} {st : Stmt} {fd : FuncData} {N ps : List Str} {sp : Sp} (F : Fun K x qual st f fd) (S : FnScope N ps (defScope st))
    (len : ∀ vs H Q E, sp vs H Q E → vs.length = ps.length)
    (hbody : ∀ (cdv : Value) (A : Around) (outer : List Env) (s : Shared) (H : Hp) (vs : List V) (Q : VK) (E : XK), Room k (A.deeper (envOfC qual (defScope st) s.heap.objs.size f cdv)) → A.guards = some [] → sp vs H Q E →
      ∃ t, PSs (cxOf (L2.CX P w) P w K mg base N qual (defScope st) f cdv A outer s H E) (defBody st) t ∧ t { nx := fun _ H' => Q .non H', rt := Q } (start N vs) H) : FnG P w K mg base (k + 1) f fd ps sp := by
  obtain ⟨oc, od, kV, doc, pm, an, cdv, ct, osl, rfl, lk, hcd⟩ := F.ex
  refine ⟨len, fun A outer s H args us vs Q E hr hg e0 hb r hsp => ?_⟩
  have KX : K.In s.heap := e0.mod.kin.keeps fun b o e => (e0.bs b o e).1
  have lim : s.heap.NoLimit := e0.mod.nolimit.keeps fun b o e => (e0.bs b o e).1
  refine codeAny_call_function hr.depth (KX _ _ lk) rfl S.co S.gen rfl (PySem.W.codeRec_of KX hcd) (hb _ _ _ _ ?_)
  refine wpAny_newFunctionEnv_cells S.kind (fun ⟨n, v⟩ hy => ?_) fun env he s1 x => ?_
  · rcases S.par n (List.of_mem_zip hy).1 with q | q
    · exact .inl q
    · exact .inr ⟨q, PySem.W.cellsFrom_some _ _ _ (.inl q)⟩
  subst he
  refine ⟨lim.keeps x.toInCall.keep, codeAny_func ?_⟩
  obtain ⟨t, ht, hq⟩ := hbody cdv A outer s H vs Q E (hr.deeper _) hg hsp
  have I : Inv (cxOf (L2.CX P w) P w K mg base N qual (defScope st) f cdv A outer s H E) [] (start N vs) H s1 := inv_start S hr.hd e0 (len _ _ _ _ hsp) r x
  refine wpAny_mono (ht.run [] s1 (start N vs) H _ I hq) (fun fl s' hs => ?_) fun e s' hs => hs
  cases fl with
  | ret u =>
    obtain ⟨v, σ', H', J, rv, q⟩ := hs
    exact ⟨v, H', J.os, J.bare, J.base, J.hok, rv, q⟩
  | next =>
    obtain ⟨σ', H', J, q⟩ := hs
    exact ⟨V.non, H', J.os, J.bare, J.base, J.hok, rfl, q⟩
  | brk =>
    obtain ⟨_, _, _, q⟩ := hs
    exact False.elim q
  | cont =>
    obtain ⟨_, _, _, q⟩ := hs
    exact False.elim q
end MP
/-! MP.10: expressions, form by form -/
namespace MP
open PySem PySem.Spec PyProof.Rows L2

theorem PEw {X : Cx} {e : Expr} {t t' : TE} (h : PE X e t) (w : ∀ σ H Q, t' σ H Q → t σ H Q) : PE X e t' := ⟨fun pins s σ H Q I q => h.run pins s σ H Q I (w σ H Q q)⟩
theorem PTw {X : Cx} {e : Expr} {t t' : TT} (h : PT X e t) (w : ∀ σ H Q, t' σ H Q → t σ H Q) : PT X e t' := ⟨fun pins s σ H Q I q => h.run pins s σ H Q I (w σ H Q q)⟩

section
variable {Y : Yx} {X : Cx} {ea eb ec : Expr} {ba bb bc : Bool} {fa fb fc : EvF} {pos : Pos}

/-- a value that is there, nothing done -/
theorem tG_here {vs : L2.St} {H : Hp} {Q : VK} {f : EvF} {b : Bool} {v : V} {g : LS → LV} (hf : ∀ s, f s = .ok (g s, s)) (hr : ∀ R m A B s, LI Y.K H R vs s m A B → Rp Y.K H m (Fz R (A ++ B)) v (g s) []) (h : tG Y b (relV Y) f vs H Q) : Q v H := by
  obtain ⟨s, R, m, A, B, l, n, h⟩ := h
  rw [hf s] at h
  refine h v H m A B [] (Stp.refl l) ?_
  rw [List.append_nil]
  exact hr R m A B s l
theorem okConst {d : PyData} {v : V} (r : ∀ H, RD Y.K H v d []) {vs : L2.St} {H : Hp} {Q : VK} {b : Bool} (h : tG Y b (relV Y) (fun s => .ok (.imm d, s)) vs H Q) : Q v H :=
  tG_here (g := fun _ => .imm d) (fun _ => rfl) (fun _ _ _ _ _ _ => .imm (r H) fun _ z => nomatch z) h
theorem se_none {k pos b} : SE Y X b (fun s => .ok (.imm .none, s)) (.Constant .none k pos) := PEw pe_non fun _ _ _ h => okConst (fun _ => .non) h
theorem se_bool {k pos b} {c : Bool} : SE Y X b (fun s => .ok (.imm (.bool c), s)) (.Constant (.bool c) k pos) := PEw pe_bl fun _ _ _ h => okConst (fun _ => .bl c) h
theorem se_int {k pos b} {i : Int} : SE Y X b (fun s => .ok (.imm (.int i), s)) (.Constant (.int i) k pos) := PEw pe_int fun _ _ _ h => okConst (fun _ => .int i) h
theorem se_str {k pos b} {x : Str} : SE Y X b (fun s => .ok (.imm (.str x), s)) (.Constant (.str x) k pos) := PEw pe_str fun _ _ _ h => okConst (fun _ => .str x) h
theorem se_glob {x : Str} {d : PyData} {v : V} {u : Value} {b : Bool} (hg : Gl X x) (hm : X.mg x = some u) (r : RelV v u) (hd : (x == ("__debug__" : Str)) = false) (rd : ∀ H, RD Y.K H v d []) : SE Y X b (fun s => .ok (.imm d, s)) (.Name x pos) :=
  PEw (pe_glob hg hm r hd) fun _ _ _ h => okConst rd h

theorem readV_rp {H : Hp} {m : List Addr} {F : Addr → Prop} {v : V} {x y : LV} {O OB : List Addr} {ob : List LV} (r : Rp Y.K H m F v x O) (ro : Rps Y.K H m F (m.map V.ref) ob OB) (e : readV ob x = some y) : Rp Y.K H m F v y [] := by
  have lent : ∀ {d : PyData}, x.dat ob = some d → Rp Y.K H m F v (mkLent d) [] := fun {d} e => by
    obtain ⟨as, q, _⟩ := r.rd ro e
    have := mkImm_rp (m := m) (F := F) (len := true) q (fun z => nomatch z)
    exact this
  cases x with
  | imm d =>
    cases e
    cases r with
    | imm q f => exact .imm q f
  | lent d =>
    cases e
    cases r with
    | lent q => exact .lent q
  | ref l =>
    cases e
    cases r with
    | ref q => exact .ref q
  | lst xs => obtain ⟨d, e1, rfl⟩ := Option.map_eq_some_iff.mp e; exact lent e1
  | tup xs => obtain ⟨d, e1, rfl⟩ := Option.map_eq_some_iff.mp e; exact lent e1
  | dic xs => obtain ⟨d, e1, rfl⟩ := Option.map_eq_some_iff.mp e; exact lent e1
theorem se_var {i : Nat} {x : Str} {b : Bool} (hN : X.N[i]? = some x) (hv : Vis X.env.scope x) (hd : (x == ("__debug__" : Str)) = false) (hcd : (x == ("__classdict__" : Str)) = false) : SE Y X b (varE i) (.Name x pos) := by
  refine PEw (pe_var hN hv hd hcd) fun vs H Q h => ?_
  obtain ⟨s, R, m, A, B, l, n, h⟩ := h
  unfold varE at h
  split at h
  · rename_i x hx
    obtain ⟨u, P, e1, r, _⟩ := l.sl.get hx
    split at h
    · rename_i y hy
      refine ⟨u, e1, h u H m A B [] (Stp.refl l) ?_⟩
      rw [List.append_nil]
      exact readV_rp r l.ob hy
    · exact h.elim
  · exact h.elim

theorem se_op {op : Operator} {g : PyData → PyData → Option RK} (ho : OpR X (binaryOp op) (Op2 Y.K g)) (ha : SE Y X ba fa ea) (hb : SE Y X bb fb eb) : SE Y X (ba || bb) (op2E g lvB bb fa fb) (.BinOp ea op eb pos) :=
  PEw (pe_op ho ha hb) fun vs H Q h => seq_op lvB (fun x y r => ⟨_, rfl, fun e => by simpa using e⟩) h
theorem se_cmp {op : CmpOp} (ho : OpR X (compareOp op) (Op2 Y.K (cmpK op))) (ha : SE Y X ba fa ea) (hb : SE Y X bb fb eb) (hm : behindInMarks op eb = false) : SE Y X (ba || bb) (op2E (cmpK op) lvC bb fa fb) (.Compare ea [op] [eb] pos) :=
  PEw (pe_cmpR ho ha hb hm) fun vs H Q h => by
    refine seq_op (fun x y r => r.lv true) (fun x y r => ⟨true, rfl, fun z => nomatch z⟩) ?_
    obtain ⟨s, R, m, A, B, l, n, h⟩ := h
    refine ⟨s, R, m, A, B, l, n, ?_⟩
    have e : ∀ s, op2E (cmpK op) lvC bb fa fb s = op2E (cmpK op) (fun x y r => r.lv true) bb fa fb s := fun s => by
      unfold op2E
      congr 1
      funext p
      split
      · rfl
      congr 1
      funext q
      split
      · split
        · rename_i r hr
          unfold cmpK at hr
          obtain ⟨b, _, rfl⟩ := Option.map_eq_some_iff.mp hr
          rfl
        · rfl
      · rfl
    rw [e s] at h
    exact h
theorem se_ix (ho : IxR X (Op2 Y.K ixK)) (ha : SE Y X ba fa ea) (hb : SE Y X bb fb eb) (hs : PlainIx eb) : SE Y X (ba || bb) (op2E ixK lvB bb fa fb) (.Subscript ea eb pos) :=
  PEw (pe_ix ho ha hb hs) fun vs H Q h => seq_op lvB (fun x y r => ⟨_, rfl, fun e => by simpa using e⟩) h

theorem tG.mono {α β : Type} {b : Bool} {rel : Rel α β} {f : LS → Res (α × LS)} {vs : L2.St} {H : Hp} {Q Q' : β → Hp → Prop} (h : tG Y b rel f vs H Q) (w : ∀ y H, Q y H → Q' y H) : tG Y b rel f vs H Q' := by
  obtain ⟨s, R, m, A, B, l, n, h⟩ := h
  refine ⟨s, R, m, A, B, l, n, ?_⟩
  revert h
  cases f s with
  | ok p => exact fun h y H' m' A' B' Ov x r => w _ _ (h y H' m' A' B' Ov x r)
  | exc c ps s' => exact id
  | stuck => exact id
/-- the rest is the last part -/
theorem Post.tail {H H1 : Hp} {R : Addr → Prop} {vs : L2.St} {s s1 : LS} {m A B m1 A1 B1 : List Addr} {b b1 b2 : Bool} {Q : VK} {r : Res (LV × LS)} (h : Post Y H R vs s m A B b (relV Y) r Q) (x1 : Stp Y.K H R vs s m A B b1 H1 s1 m1 A1 B1 []) (hb : b = false → b1 = false ∧ b2 = false) :
    Post Y H1 (Rv R []) vs s1 m1 A1 B1 b2 (relV Y) r Q := by
  cases r with
  | ok p =>
    intro y H2 m2 A2 B2 P2 x2 r2
    refine h y H2 m2 A2 B2 P2 ((x1.seq x2).any fun e => ?_) ?_
    · obtain ⟨e1, e2⟩ := hb e
      rw [e1, e2]; rfl
    · have r3 : Rp Y.K H2 m2 (Fz (Rv R []) (A2 ++ B2 ++ P2)) y p.1 P2 := r2
      rw [Rv_nil] at r3
      exact r3
  | exc c ps s' =>
    refine fun cl d H' m' A' B' x q => h cl d H' m' A' B' ((x1.seq x).any fun e => ?_) (by rw [Rv_nil] at q; exact q)
    obtain ⟨e1, e2⟩ := hb e
    rw [e1, e2]; rfl
  | stuck => exact h
/-! ### tests -/
theorem boolOf_rp {H : Hp} {m : List Addr} {F : Addr → Prop} {v : V} {x : LV} {O : List Addr} {c : Bool} (r : Rp Y.K H m F v x O) (e : boolOf x = some c) : v = .bl c ∧ O = [] := by
  unfold boolOf at e
  split at e
  · cases e
    cases r with
    | imm q f =>
      cases q
      exact ⟨rfl, rfl⟩
  · cases e
theorem tst_val {b : Bool} {vs : L2.St} {H : Hp} {Q : Bool → Hp → Prop} (h : tG Y b relB (fun s => tstR (fa s)) vs H Q) : tG Y b (relV Y) fa vs H (fun x H1 => ∃ c, x = .bl c ∧ Q c H1) := by
  obtain ⟨s, R, m, A, B, l, n, h⟩ := h
  refine ⟨s, R, m, A, B, l, n, h.split id fun p hp h1 y H1 m1 A1 B1 P x1 r1 => ?_⟩
  cases e : boolOf p.1 with
  | none => rw [e] at h1; exact h1.elim
  | some c =>
    rw [e] at h1
    obtain ⟨rfl, rfl⟩ := boolOf_rp r1 e
    exact ⟨c, rfl, h1 c H1 m1 A1 B1 [] x1 ⟨rfl, rfl⟩⟩
theorem st_val {b : Bool} (h : SE Y X b fa ea) (he : ∀ whole, isTrue ea X.env whole = (do let v ← whole; standAt ea.pos; holding [v] (truthy v))) : ST Y X b (fun s => tstR (fa s)) ea :=
  PTw (pt_val h he) fun vs H Q h => tst_val h
theorem st_of {t : TE} {b : Bool} (h : PT X ea (tTest t)) (w : ∀ σ H Q, tG Y b (relV Y) fa σ H Q → t σ H Q) : ST Y X b (fun s => tstR (fa s)) ea :=
  PTw h fun vs H Q q => w vs H _ (tst_val q)
theorem cmp_conv {op : CmpOp} {vs : L2.St} {H : Hp} {Q : VK} (h : tG Y (ba || bb) (relV Y) (op2E (cmpK op) lvC bb fa fb) vs H Q) : tOp (Op2 Y.K (cmpK op)) (tG Y ba (relV Y) fa) (tG Y bb (relV Y) fb) vs H Q := by
  refine seq_op (fun x y r => r.lv true) (fun x y r => ⟨true, rfl, fun z => nomatch z⟩) ?_
  obtain ⟨s, R, m, A, B, l, n, h⟩ := h
  refine ⟨s, R, m, A, B, l, n, ?_⟩
  have e : ∀ s, op2E (cmpK op) lvC bb fa fb s = op2E (cmpK op) (fun x y r => r.lv true) bb fa fb s := fun s => by
    unfold op2E
    congr 1
    funext p
    split
    · rfl
    congr 1
    funext q
    split
    · split
      · rename_i r hr
        unfold cmpK at hr
        obtain ⟨b, _, rfl⟩ := Option.map_eq_some_iff.mp hr
        rfl
      · rfl
    · rfl
  rw [e s] at h
  exact h
theorem st_cmp {op : CmpOp} (ho : OpR X (compareOp op) (Op2 Y.K (cmpK op))) (ha : SE Y X ba fa ea) (hb : SE Y X bb fb eb) (hm : behindInMarks op eb = false) : ST Y X (ba || bb) (fun s => tstR (op2E (cmpK op) lvC bb fa fb s)) (.Compare ea [op] [eb] pos) :=
  st_of (pt_cmpR ho ha hb hm) fun vs H Q h => cmp_conv h

/-- two tests in a row -/
theorem and_conv {vs : L2.St} {H : Hp} {Q : Bool → Hp → Prop} (h : tG Y (ba || bb) relB (fun s => tstR (andE fa fb s)) vs H Q) :
    tAnd (tG Y ba relB fun s => tstR (fa s)) (tG Y bb relB fun s => tstR (fb s)) vs H Q := by
  obtain ⟨s, R, m, A, B, l, n, h⟩ := h
  have e : tstR (andE fa fb s) = (tstR (fa s)).bind fun p => if p.1 then (tstR (fb p.2)).bind fun q => .ok (q.1, q.2) else .ok (false, p.2) := by
    unfold andE tstR
    cases fa s with
    | ok p =>
      simp only [Res.bind]
      cases boolOf p.1 with
      | none => rfl
      | some c =>
        simp only [Res.bind]
        cases c with
        | false => rfl
        | true =>
          simp only [if_true]
          cases fb p.2 with
          | ok q => simp only [Res.bind]; cases boolOf q.1 <;> rfl
          | exc _ _ _ => rfl
          | stuck => rfl
    | exc _ _ _ => rfl
    | stuck => rfl
  simp only [e] at h
  refine ⟨s, R, m, A, B, l, fun e => n (by rw [e]; rfl), h.split (fun e => by cases ba <;> simp_all) fun p hp h1 y H1 m1 A1 B1 P x1 r1 => ?_⟩
  obtain ⟨rfl, rfl⟩ := r1
  cases hc : p.1 with
  | false =>
    rw [if_neg Bool.false_ne_true]
    rw [hc] at h1
    exact h1 false H1 m1 A1 B1 [] (x1.any fun e => by cases ba <;> simp_all) ⟨rfl, rfl⟩
  | true =>
    rw [if_pos rfl]
    rw [hc, if_pos rfl] at h1
    refine ⟨p.2, Rv R [], m1, A1, B1, x1.li, fun e => x1.nl (n (by rw [e]; cases ba <;> rfl)), h1.next x1 (fun e => by cases ba <;> cases bb <;> simp_all) fun q hq h2 z H2 m2 A2 B2 P2 x2 r2 => ?_⟩
    obtain ⟨rfl, rfl⟩ := r2
    exact h2 q.1 H2 m2 A2 B2 [] ((x1.seq x2).any (fun e => by cases ba <;> cases bb <;> simp_all)) ⟨rfl, rfl⟩
theorem or_conv {vs : L2.St} {H : Hp} {Q : Bool → Hp → Prop} (h : tG Y (ba || bb) relB (fun s => tstR (orE fa fb s)) vs H Q) :
    tOr (tG Y ba relB fun s => tstR (fa s)) (tG Y bb relB fun s => tstR (fb s)) vs H Q := by
  obtain ⟨s, R, m, A, B, l, n, h⟩ := h
  have e : tstR (orE fa fb s) = (tstR (fa s)).bind fun p => if p.1 then .ok (true, p.2) else (tstR (fb p.2)).bind fun q => .ok (q.1, q.2) := by
    unfold orE tstR
    cases fa s with
    | ok p =>
      simp only [Res.bind]
      cases boolOf p.1 with
      | none => rfl
      | some c =>
        simp only [Res.bind]
        cases c with
        | true => rfl
        | false =>
          simp only [Bool.false_eq_true, if_false]
          cases fb p.2 with
          | ok q => simp only [Res.bind]; cases boolOf q.1 <;> rfl
          | exc _ _ _ => rfl
          | stuck => rfl
    | exc _ _ _ => rfl
    | stuck => rfl
  simp only [e] at h
  refine ⟨s, R, m, A, B, l, fun e => n (by rw [e]; rfl), h.split (fun e => by cases ba <;> simp_all) fun p hp h1 y H1 m1 A1 B1 P x1 r1 => ?_⟩
  obtain ⟨rfl, rfl⟩ := r1
  cases hc : p.1 with
  | true =>
    rw [if_pos rfl]
    rw [hc] at h1
    exact h1 true H1 m1 A1 B1 [] (x1.any fun e => by cases ba <;> simp_all) ⟨rfl, rfl⟩
  | false =>
    rw [if_neg Bool.false_ne_true]
    rw [hc, if_neg Bool.false_ne_true] at h1
    refine ⟨p.2, Rv R [], m1, A1, B1, x1.li, fun e => x1.nl (n (by rw [e]; cases ba <;> rfl)), h1.next x1 (fun e => by cases ba <;> cases bb <;> simp_all) fun q hq h2 z H2 m2 A2 B2 P2 x2 r2 => ?_⟩
    obtain ⟨rfl, rfl⟩ := r2
    exact h2 q.1 H2 m2 A2 B2 [] ((x1.seq x2).any (fun e => by cases ba <;> cases bb <;> simp_all)) ⟨rfl, rfl⟩
/-- a test whose value is wanted -/
theorem bool_conv {b : Bool} {f : LS → Res (Bool × LS)} {vs : L2.St} {H : Hp} {Q : VK} (h : tG Y b (relV Y) (fun s => (f s).bind fun p => .ok (.imm (.bool p.1), p.2)) vs H Q) : tG Y b relB f vs H (fun c H1 => Q (.bl c) H1) := by
  obtain ⟨s, R, m, A, B, l, n, h⟩ := h
  refine ⟨s, R, m, A, B, l, n, h.split id fun p hp h1 y H1 m1 A1 B1 P x1 r1 => ?_⟩
  obtain ⟨rfl, rfl⟩ := r1
  exact h1 _ H1 m1 A1 B1 [] x1 (.imm (.bl p.1) fun _ z => nomatch z)
abbrev SW (Y : Yx) (X : Cx) (b : Bool) (f : LS → Res (Bool × LS)) (e : Expr) : Prop := PW X e (tG Y b relB f)
theorem PWw {e : Expr} {t t' : TT} (h : PW X e t) (w : ∀ σ H Q, t' σ H Q → t σ H Q) : PW X e t' := ⟨fun wh pins s σ H Q I q => h.run wh pins s σ H Q I (w σ H Q q)⟩
theorem sw_and {rest : List Expr} (ha : ST Y X ba (fun s => tstR (fa s)) ea) (hb : SW Y X bb (fun s => tstR (fb s)) (.BoolOp .And (eb :: rest) pos)) : SW Y X (ba || bb) (fun s => tstR (andE fa fb s)) (.BoolOp .And (ea :: eb :: rest) pos) :=
  PWw (pw_and ha hb) fun vs H Q h => and_conv h
theorem sw_or {rest : List Expr} (ha : ST Y X ba (fun s => tstR (fa s)) ea) (hb : SW Y X bb (fun s => tstR (fb s)) (.BoolOp .Or (eb :: rest) pos)) : SW Y X (ba || bb) (fun s => tstR (orE fa fb s)) (.BoolOp .Or (ea :: eb :: rest) pos) :=
  PWw (pw_or ha hb) fun vs H Q h => or_conv h
theorem not_conv {b : Bool} {vs : L2.St} {H : Hp} {Q : Bool → Hp → Prop} (h : tG Y b relB (fun s => tstR (notE fa s)) vs H Q) : tNot (tG Y b relB fun s => tstR (fa s)) vs H Q := by
  obtain ⟨s, R, m, A, B, l, n, h⟩ := h
  have e : tstR (notE fa s) = (tstR (fa s)).bind fun p => .ok (!p.1, p.2) := by
    unfold notE tstR
    cases fa s with
    | ok p => simp only [Res.bind]; cases boolOf p.1 <;> rfl
    | exc _ _ _ => rfl
    | stuck => rfl
  simp only [e] at h
  refine ⟨s, R, m, A, B, l, n, h.split id fun p hp h1 y H1 m1 A1 B1 P x1 r1 => ?_⟩
  obtain ⟨rfl, rfl⟩ := r1
  exact h1 _ H1 m1 A1 B1 [] x1 ⟨rfl, rfl⟩
theorem st_not {b : Bool} (ha : ST Y X b (fun s => tstR (fa s)) ea) : ST Y X b (fun s => tstR (notE fa s)) (.UnaryOp .Not ea pos) := PTw (pt_not ha) fun vs H Q h => not_conv h
/-- a value's test from what it would be as a value: for and, or, not -/
theorem tst_same (f : EvF) (g : LS → Res (Bool × LS)) (h : ∀ s, f s = (g s).bind fun p => .ok (.imm (.bool p.1), p.2)) : ∀ s, tstR (f s) = g s := fun s => by
  rw [h s]
  unfold tstR
  cases g s <;> rfl

/-! ### and, or, not as values; one or the other -/
theorem se_not {b : Bool} (ha : SE Y X b fa ea) : SE Y X b (notE fa) (.UnaryOp .Not ea pos) := PEw (pe_not ha) fun vs H Q h => by
  have h' := bool_conv (f := fun s => (tstR (fa s)).bind fun p => .ok (!p.1, p.2)) (Y := Y) (b := b) (vs := vs) (H := H) (Q := Q) (by
    obtain ⟨s, R, m, A, B, l, n, h⟩ := h
    refine ⟨s, R, m, A, B, l, n, ?_⟩
    have e : notE fa s = ((tstR (fa s)).bind fun p => Res.ok (!p.1, p.2)).bind fun p => .ok (.imm (.bool p.1), p.2) := by
      unfold notE
      cases tstR (fa s) <;> rfl
    rw [e] at h
    exact h)
  have h2 : tG Y b relB (fun s => tstR (fa s)) vs H (fun c H1 => Q (.bl (!c)) H1) := by
    obtain ⟨s, R, m, A, B, l, n, h⟩ := h'
    refine ⟨s, R, m, A, B, l, n, h.split id fun p hp h1 y H1 m1 A1 B1 P x1 r1 => ?_⟩
    obtain ⟨rfl, rfl⟩ := r1
    exact h1 _ H1 m1 A1 B1 [] x1 ⟨rfl, rfl⟩
  exact tst_val h2
theorem se_and {rest : List Expr} (ha : SE Y X ba fa ea) (hb : SE Y X bb fb (.BoolOp .And (eb :: rest) pos)) : SE Y X (ba || bb) (andE fa fb) (.BoolOp .And (ea :: eb :: rest) pos) := PEw (pe_and ha hb) fun vs H Q h => by
  have h' : tG Y (ba || bb) relB (fun s => tstR (andE fa fb s)) vs H (fun c H1 => Q (.bl c) H1) := bool_conv (by
    obtain ⟨s, R, m, A, B, l, n, h⟩ := h
    refine ⟨s, R, m, A, B, l, n, ?_⟩
    have e : andE fa fb s = (tstR (andE fa fb s)).bind fun p => .ok (.imm (.bool p.1), p.2) := by
      unfold andE
      cases tstR (fa s) with
      | ok p =>
        simp only [Res.bind]
        cases p.1 with
        | false => rfl
        | true =>
          simp only [if_true]
          cases tstR (fb p.2) <;> rfl
      | exc _ _ _ => rfl
      | stuck => rfl
    rw [e] at h
    exact h)
  have h2 := and_conv h'
  exact tst_val (tG.mono h2 fun c H1 q => by
    cases c with
    | false => exact q
    | true => exact tG.mono (tst_val q) fun x H2 ⟨d, e, q⟩ => by rw [e]; exact q)
theorem se_or {rest : List Expr} (ha : SE Y X ba fa ea) (hb : SE Y X bb fb (.BoolOp .Or (eb :: rest) pos)) : SE Y X (ba || bb) (orE fa fb) (.BoolOp .Or (ea :: eb :: rest) pos) := PEw (pe_or ha hb) fun vs H Q h => by
  have h' : tG Y (ba || bb) relB (fun s => tstR (orE fa fb s)) vs H (fun c H1 => Q (.bl c) H1) := bool_conv (by
    obtain ⟨s, R, m, A, B, l, n, h⟩ := h
    refine ⟨s, R, m, A, B, l, n, ?_⟩
    have e : orE fa fb s = (tstR (orE fa fb s)).bind fun p => .ok (.imm (.bool p.1), p.2) := by
      unfold orE
      cases tstR (fa s) with
      | ok p =>
        simp only [Res.bind]
        cases p.1 with
        | true => rfl
        | false =>
          simp only [Bool.false_eq_true, if_false]
          cases tstR (fb p.2) <;> rfl
      | exc _ _ _ => rfl
      | stuck => rfl
    rw [e] at h
    exact h)
  have h2 := or_conv h'
  exact tst_val (tG.mono h2 fun c H1 q => by
    cases c with
    | true => exact q
    | false => exact tG.mono (tst_val q) fun x H2 ⟨d, e, q⟩ => by rw [e]; exact q)
theorem se_one {op} {b : Bool} (h : SE Y X b fa ea) : SE Y X b fa (.BoolOp op [ea] pos) := pe_one h
theorem se_ite (hc : ST Y X bc (fun s => tstR (fc s)) ec) (ha : SE Y X ba fa ea) (hb : SE Y X bb fb eb) : SE Y X (bc || ba || bb) (iteE fc fa fb) (.IfExp ec ea eb pos) := PEw (pe_ifExp hc ha hb) fun vs H Q h => by
  obtain ⟨s, R, m, A, B, l, n, h⟩ := h
  refine ⟨s, R, m, A, B, l, fun e => n (by rw [e]; rfl), h.split (fun e => by cases bc <;> simp_all) fun p hp h1 y H1 m1 A1 B1 P x1 r1 => ?_⟩
  obtain ⟨rfl, rfl⟩ := r1
  cases hq : p.1 with
  | true =>
    rw [if_pos rfl]
    rw [hq, if_pos rfl] at h1
    exact ⟨p.2, Rv R [], m1, A1, B1, x1.li, fun e => x1.nl (n (by rw [e]; cases bc <;> rfl)), h1.tail x1 (fun e => by cases bc <;> cases ba <;> simp_all)⟩
  | false =>
    rw [if_neg Bool.false_ne_true]
    rw [hq, if_neg Bool.false_ne_true] at h1
    exact ⟨p.2, Rv R [], m1, A1, B1, x1.li, fun e => x1.nl (n (by rw [e]; cases bc <;> cases ba <;> rfl)), h1.tail x1 (fun e => by cases bc <;> cases bb <;> simp_all)⟩
theorem se_neg {b : Bool} (h : SE Y X b fa ea) : SE Y X b (negE fa) (.UnaryOp .USub ea pos) := PEw (pe_un un_neg h) fun vs H Q h => by
  obtain ⟨s, R, m, A, B, l, n, h⟩ := h
  refine ⟨s, R, m, A, B, l, n, h.split id fun p hp h1 y H1 m1 A1 B1 P x1 r1 => ?_⟩
  obtain ⟨x, s1⟩ := p
  simp only at r1 h1 x1
  split at h1
  · cases r1 with
    | imm q f =>
      cases q
      exact ⟨_, rfl, h1 _ H1 m1 A1 B1 [] x1 (.imm (as := []) (.int _) fun _ z => nomatch z)⟩
  · exact h1.elim
end
end MP
/-! MP.11: lists of expressions, displays, built-ins, slices, chains -/
namespace MP
open PySem PySem.Spec PyProof.Rows L2

theorem PAw {X : Cx} {e : List Expr} {t t' : TA} (h : PA X e t) (w : ∀ σ H Q, t' σ H Q → t σ H Q) : PA X e t' := ⟨fun pos pins s σ H Q I q => h.run pos pins s σ H Q I (w σ H Q q)⟩

section
variable {Y : Yx} {H H' H1 H2 : Hp} {R : Addr → Prop} {vs : L2.St} {s s' s1 s2 : LS} {m m' m1 m2 : List Addr} {A B A' B' A1 B1 A2 B2 P : List Addr} {b b1 b2 : Bool}
theorem Stp.keeps {c : Bool} {P Q : List Addr} {v : List V} {z : List LV} (x : Stp Y.K H R vs s m A B b H1 s1 m1 A1 B1 P) (r : Rps Y.K H1 m1 (Fz R (A1 ++ B1 ++ P)) v z P) (y : Stp Y.K H1 (Rv R P) vs s1 m1 A1 B1 c H2 s2 m2 A2 B2 Q)
    (n : c = false ∨ LV.nls z = true) : Rps Y.K H2 m2 (Fz R (A2 ++ B2 ++ (P ++ Q))) v z P := by
  have hF : ∀ a, Fz R (A1 ++ B1 ++ P) a → H1 a ≠ none → Fz R (A2 ++ B2 ++ (P ++ Q)) a := fun a f n => by
    refine ⟨fun w => ?_, f.2⟩
    rcases List.mem_append.mp w with w | w
    · rcases y.gr a (.inl w) with w | w
      · exact f.1 (List.mem_append_left _ w)
      · exact n w
    · rcases List.mem_append.mp w with w | w
      · exact f.1 (List.mem_append_right _ w)
      · rcases y.gr a (.inr w) with w | w
        · exact f.1 (List.mem_append_left _ w)
        · exact n w
  rcases n with n | n
  · obtain ⟨_, e5⟩ := y.ef n
    exact r.pres e5 (fun b z => nomatch z) y.mm hF (fun a _ _ z => nomatch z) (fun a _ z => nomatch z) (.inl rfl)
  · exact r.pres y.pr x.li.own y.mm hF (fun a f _ z => f.1 (List.mem_append_left _ z)) (fun a z w => x.disj a w z) (.inr n)
/-- the frozen ones, read from the first step on -/
theorem Fz_rv {Q : List Addr} : ∀ a, Fz (Rv R P) (A2 ++ B2 ++ Q) a → Fz R (A2 ++ B2 ++ (P ++ Q)) a := fun a f => ⟨fun w => by
  rcases List.mem_append.mp w with w | w
  · exact f.1 (List.mem_append_left _ w)
  · rcases List.mem_append.mp w with w | w
    · exact f.2 (.inr w)
    · exact f.1 (List.mem_append_right _ w), fun w => f.2 (.inl w)⟩
theorem Rp.fz {F F' : Addr → Prop} {v : V} {x : LV} {O : List Addr} (r : Rp Y.K H m F v x O) (h : ∀ a, F a → F' a) : Rp Y.K H m F' v x O :=
  r.pres (W := []) Pres.refl (fun b z => nomatch z) (fun _ _ e => e) (fun a f _ => h a f) (fun _ _ _ z => nomatch z) (fun _ _ z => nomatch z) (.inl rfl)
theorem Rps.fz {F F' : Addr → Prop} {v : List V} {x : List LV} {O : List Addr} (r : Rps Y.K H m F v x O) (h : ∀ a, F a → F' a) : Rps Y.K H m F' v x O :=
  r.pres (W := []) Pres.refl (fun b z => nomatch z) (fun _ _ e => e) (fun a f _ => h a f) (fun _ _ _ z => nomatch z) (fun _ _ z => nomatch z) (.inl rfl)
theorem Stp.obF {Q : List Addr} (x : Stp Y.K H R vs s m A B b H2 s2 m2 A2 B2 Q) : Rps Y.K H2 m2 (Fz R (A2 ++ B2 ++ Q)) (m2.map V.ref) s2.ob B2 := x.li.ob.fz fun a f => ⟨fun w => (List.mem_append.mp w).elim f.1 fun w => f.2 (.inr w), fun w => f.2 (.inl w)⟩
end

section
variable {Y : Yx} {X : Cx} {ea eb ec : Expr} {es : List Expr} {ba bb bc : Bool} {fa fb fc : EvF} {ga gb : LS → Res (List LV × LS)} {pos : Pos}
theorem sa_nil {b : Bool} : SA Y X b (fun s => .ok ([], s)) [] := PAw pa_nil fun vs H Q h => by
  obtain ⟨s, R, m, A, B, l, n, h⟩ := h
  exact h [] H m A B [] (Stp.refl l) .nil
theorem cons_conv {vs : L2.St} {H : Hp} {Q : List V → Hp → Prop} (h : tG Y (ba || bb) (relVs Y) (consA bb fa gb) vs H Q) : tCons (tG Y ba (relV Y) fa) (tG Y bb (relVs Y) gb) vs H Q := by
  obtain ⟨s, R, m, A, B, l, n, h⟩ := h
  refine ⟨s, R, m, A, B, l, fun e => n (by rw [e]; rfl), h.split (fun e => by cases ba <;> simp_all) fun p hp h1 y H1 m1 A1 B1 P x1 r1 => ?_⟩
  by_cases hc : bb = true ∧ p.1.nl = false
  · rw [if_pos hc] at h1; exact h1.elim
  rw [if_neg hc] at h1
  refine ⟨p.2, Rv R P, m1, A1, B1, x1.li, fun e => x1.nl (n (by rw [e]; cases ba <;> rfl)), h1.next x1 (fun e => by cases ba <;> cases bb <;> simp_all) fun q hq h2 z H2 m2 A2 B2 P2 x2 r2 => ?_⟩
  have r1' := x1.keep r1 x2 (by
    cases e : bb with
    | false => exact .inl rfl
    | true =>
      right
      cases e2 : p.1.nl with
      | true => rfl
      | false => exact absurd ⟨e, e2⟩ hc)
  exact h2 (y :: z) H2 m2 A2 B2 (P ++ P2) (x1.seq x2) (.cons r1' (r2.fz Fz_rv))
theorem star_no {e : Expr} (h : ∀ v p, e ≠ .Starred v p) (es : List Expr) (env : Env) : starEach (e :: es) env = (false, eval e env) :: starEach es env := by
  cases e <;> first | rfl | exact absurd rfl (h _ _)
theorem sa_cons (ha : SE Y X ba fa ea) (hb : SA Y X bb gb es) (hs : ∀ v p, ea ≠ .Starred v p) : SA Y X (ba || bb) (consA bb fa gb) (ea :: es) := PAw (pa_cons ha hb (star_no hs es X.env)) fun vs H Q h => cons_conv h

/-! ### displays -/
theorem allImm_rp {H : Hp} {m : List Addr} {F : Addr → Prop} : ∀ {us : List V} {xs : List LV} {O : List Addr} {ds : List PyData}, Rps Y.K H m F us xs O → mkTup.allImm xs = some ds → O = [] ∧ ∃ as, RDs Y.K H us ds as ∧ ∀ a ∈ as, F a
  | _, _, _, _, .nil, e => by cases e; exact ⟨rfl, [], .nil, fun _ z => nomatch z⟩
  | _, _, _, _, .cons r t, e => by
    cases r with
    | imm q f =>
      obtain ⟨ds, e', rfl⟩ := Option.map_eq_some_iff.mp e
      obtain ⟨rfl, as, q2, f2⟩ := allImm_rp t e'
      exact ⟨rfl, _, .cons q q2, fun a z => (List.mem_append.mp z).elim (f a) (f2 a)⟩
    | _ => cases e
theorem mkTup_rp {H : Hp} {m : List Addr} {F : Addr → Prop} {p : Addr} {us : List V} {xs : List LV} {O : List Addr} (hp : SqN Y.K H p us) (r : Rps Y.K H m F us xs O) : Rp Y.K H m F (.ref p) (mkTup xs) O := by
  unfold mkTup
  split
  · rename_i ds e
    obtain ⟨rfl, as, q, f⟩ := allImm_rp r e
    exact .imm (.tup hp q) f
  · exact .tup hp r
theorem Rps.length {K : PySem.W.Frag} {H : Hp} {m : List Addr} {F : Addr → Prop} : ∀ {us : List V} {xs : List LV} {O : List Addr}, Rps K H m F us xs O → us.length = xs.length
  | _, _, _, .nil => rfl
  | _, _, _, .cons _ t => by simp [Rps.length t]
def tTupN (t : TA) : TE := fun σ H Q => t σ H fun xs H1 => xs.length ≤ sizeLine ∧ NT Q H1 xs
theorem pe_tupN {x1 : Nat} (h : PA X es t) : PE X (.Tuple es x1 pos) (tTupN t) := by
  refine ⟨fun pins s σ H Q I hq => ?_⟩
  refine wpAny_Tuple_spliced (thn (h.run pos pins s σ H _ I hq) fun us s1 ⟨xs, H1, I1, r, z, q⟩ => ⟨by rw [← r.length]; exact z, ?_⟩)
  exact endT I1 z r q
theorem tup_conv {b : Bool} {vs : L2.St} {H : Hp} {Q : VK} (h : tG Y b (relV Y) (tupE ga) vs H Q) : tTupN (tG Y b (relVs Y) ga) vs H Q := by
  obtain ⟨s, R, m, A, B, l, n, h⟩ := h
  refine ⟨s, R, m, A, B, l, n, h.split id fun p hp h1 y H1 m1 A1 B1 P x1 r1 => ?_⟩
  by_cases hz : p.1.length ≤ sizeLine
  · rw [if_pos hz] at h1
    refine ⟨by rw [r1.length]; exact hz, fun q o hq hd => ?_⟩
    refine h1 (.ref q) _ m1 A1 B1 P (x1.res (Pres.new hq) (fun a z => ⟨.inl z, (Pres.new hq).dom a (x1.ex a z)⟩) x1.nd) (mkTup_rp (SqN.new hd) ?_)
    exact r1.pres (W := []) (Pres.new hq) (fun b z => nomatch z) (fun _ _ e => e) (fun a f _ => f) (fun _ _ _ z => nomatch z) (fun _ _ z => nomatch z) (.inl rfl)
  · rw [if_neg hz] at h1; exact h1.elim
theorem lst_conv {b : Bool} {vs : L2.St} {H : Hp} {Q : VK} (h : tG Y b (relV Y) (lstE ga) vs H Q) : tLst (tG Y b (relVs Y) ga) vs H Q := by
  obtain ⟨s, R, m, A, B, l, n, h⟩ := h
  refine ⟨s, R, m, A, B, l, n, h.split id fun p hp h1 y H1 m1 A1 B1 P x1 r1 => ?_⟩
  by_cases hz : p.1.length ≤ sizeLine
  · rw [if_pos hz] at h1
    refine ⟨by rw [r1.length]; exact hz, fun q hq => ?_⟩
    have nq : q ∉ P := fun z => x1.ex q z hq
    refine h1 (.ref q) _ m1 A1 B1 (q :: P) (x1.res (Pres.new hq) (fun a z => ?_) (List.nodup_cons.mpr ⟨nq, x1.nd⟩)) (.lst upd_same ?_)
    · rcases List.mem_cons.mp z with z | z
      · rw [z]; exact ⟨.inr hq, by rw [upd_same]; exact fun z => nomatch z⟩
      · exact ⟨.inl z, (Pres.new hq).dom a (x1.ex a z)⟩
    · refine r1.pres (W := []) (Pres.new hq) (fun b z => nomatch z) (fun _ _ e => e) (fun a f ne => ⟨fun w => ?_, f.2⟩) (fun _ _ _ z => nomatch z) (fun _ _ z => nomatch z) (.inl rfl)
      rcases List.mem_append.mp w with w | w
      · exact f.1 (List.mem_append_left _ w)
      · rcases List.mem_cons.mp w with w | w
        · rw [w] at ne; exact ne hq
        · exact f.1 (List.mem_append_right _ w)
  · rw [if_neg hz] at h1; exact h1.elim
theorem se_tup {b : Bool} {k} (h : SA Y X b ga es) : SE Y X b (tupE ga) (.Tuple es k pos) := PEw (pe_tupN h) fun vs H Q h => tup_conv h
theorem se_lst {b : Bool} (h : SA Y X b ga es) : SE Y X b (lstE ga) (.List es pos) := PEw (pe_lst h) fun vs H Q h => lst_conv h

/-! ### built-ins -/
theorem datsOf_rd {H : Hp} {m : List Addr} {F : Addr → Prop} {OB : List Addr} {ob : List LV} (ro : Rps Y.K H m F (m.map V.ref) ob OB) : ∀ {us : List V} {xs : List LV} {O : List Addr} {ds : List PyData}, Rps Y.K H m F us xs O → datsOf ob xs = some ds →
    ∃ as, RDs Y.K H us ds as ∧ ∀ a ∈ as, F a ∨ a ∈ O ∨ lhs xs = true
  | _, _, _, _, .nil, e => by cases e; exact ⟨[], .nil, fun _ z => nomatch z⟩
  | _, x :: xs, _, _, .cons r t, e => by
    unfold datsOf at e
    split at e
    · rename_i d ds e1 e2
      cases e
      obtain ⟨as, q, f⟩ := r.rd ro e1
      obtain ⟨bs, q2, f2⟩ := datsOf_rd ro t e2
      refine ⟨_, .cons q q2, fun a z => ?_⟩
      rcases List.mem_append.mp z with z | z
      · refine (f a z).imp id fun w => w.imp (List.mem_append_left _) fun w => ?_
        simp [lhs, w]
      · refine (f2 a z).imp id fun w => w.imp (List.mem_append_right _) fun w => ?_
        simp only [lhs, List.any_cons, Bool.or_eq_true]
        exact .inr w
    · cases e
theorem bi_conv {b : Bool} {g : List PyData → Option RK} {vs : L2.St} {H : Hp} {Q : VK} (h : tG Y b (relV Y) (biE g ga) vs H Q) : tCB (CallN Y.K g) (tG Y b (relVs Y) ga) vs H Q := by
  obtain ⟨s, R, m, A, B, l, n, h⟩ := h
  refine ⟨s, R, m, A, B, l, n, h.split id fun p hp h1 y H1 m1 A1 B1 P x1 r1 => ?_⟩
  revert h1
  cases e1 : datsOf p.2.ob p.1 with
  | none => exact fun h => h.elim
  | some ds =>
    simp only
    cases e2 : g ds with
    | none => exact fun h => h.elim
    | some r =>
      intro h1
      obtain ⟨as, q, f⟩ := datsOf_rd x1.obF r1 e1
      refine ⟨ds, as, r, q, e2, fun v H' p' rk => ?_⟩
      obtain ⟨Ov, x', rp⟩ := x1.op (len := lhs p.1) p' rk (fun e a z => by
        rcases f a z with w | w | w
        · exact ⟨fun u => w.1 (List.mem_append_left _ u), w.2⟩
        · exact ⟨fun u => x1.disj a u w, x1.nr a w⟩
        · rw [e] at w; cases w) (q.dom)
      exact h1 v H' m1 A1 B1 Ov x' rp
theorem se_callB {b : Bool} {id : String} {g : List PyData → Option RK} {x : Str} {p : Pos} (hc : CallR X (.builtin id) (CallN Y.K g)) (hg : Gl X x) (hm : X.mg x = none) (hv : bootBuiltins x = some (.builtin id)) (h : SA Y X b ga (ea :: es)) (hn : x ≠ "__name__") (hdb : (x == ("__debug__" : Str)) = false)
    (he : starEach (ea :: es) X.env = (false, eval ea X.env) :: starEach es X.env) (hpl : (backTo pos (starEach es X.env)).any (·.1) = false) : SE Y X b (biE g ga) (.Call (.Name x p) (ea :: es) [] pos) :=
  PEw (pe_callB hc hg hm hv h hn hdb he hpl) fun vs H Q h => bi_conv h
theorem se_callT {b : Bool} {id : String} {g : List PyData → Option RK} {x : Str} {p : Pos} (hc : CallR X (.type id) (CallN Y.K g)) (hg : Gl X x) (hm : X.mg x = none) (hv : bootBuiltins x = some (.type id)) (h : SA Y X b ga (ea :: es)) (hn : x ≠ "__name__") (hdb : (x == ("__debug__" : Str)) = false)
    (he : starEach (ea :: es) X.env = (false, eval ea X.env) :: starEach es X.env) (hpl : (backTo pos (starEach es X.env)).any (·.1) = false) : SE Y X b (biE g ga) (.Call (.Name x p) (ea :: es) [] pos) :=
  PEw (pe_callTy hc hg hm hv h hn hdb he hpl) fun vs H Q h => bi_conv h

/-! ### slices -/
abbrev SO (Y : Yx) (X : Cx) (b : Bool) (f : LS → Res (Option Int × LS)) (e : Option Expr) : Prop := PO X e (tG Y b relI f)
theorem POw {e : Option Expr} {t t' : TO} (h : PO X e t) (w : ∀ σ H Q, t' σ H Q → t σ H Q) : PO X e t' := ⟨fun s pins σ H E I q => h.run s pins σ H E I (w _ _ _ q)⟩

theorem so_none {b : Bool} : SO Y X b (fun s => .ok (none, s)) none := POw po_none fun vs H Q h => by
  obtain ⟨s, R, m, A, B, l, n, h⟩ := h
  exact h none H m A B [] (Stp.refl l) ⟨rfl, rfl⟩
theorem so_some {b : Bool} (h : SE Y X b fa ea) : SO Y X b (intO fa) (some ea) := POw (po_some h) fun vs H Q h => by
  obtain ⟨s, R, m, A, B, l, n, h⟩ := h
  refine ⟨s, R, m, A, B, l, n, h.split id fun p hp h1 y H1 m1 A1 B1 P x1 r1 => ?_⟩
  obtain ⟨x, s1⟩ := p
  simp only at r1 h1 x1
  split at h1
  · cases r1 with
    | imm q f =>
      cases q
      exact ⟨_, rfl, h1 _ H1 m1 A1 B1 [] x1 ⟨rfl, rfl⟩⟩
  · exact h1.elim
/-- only the heap grew: a value that lies in own things too stands -/
theorem sl_conv {fl fh : LS → Res (Option Int × LS)} {vs : L2.St} {H : Hp} {Q : VK} (h : tG Y (ba || (bb || bc)) (relV Y) (slE (bb || bc) fa fl fh) vs H Q) : tSl (Sl2 Y.K) (tG Y ba (relV Y) fa) (tG Y bb relI fl) (tG Y bc relI fh) vs H Q := by
  obtain ⟨s, R, m, A, B, l, n, h⟩ := h
  unfold slE at h
  cases hb : (bb || bc) with
  | true => rw [if_pos hb] at h; exact h.elim
  | false =>
    rw [if_neg (by rw [hb]; exact Bool.false_ne_true)] at h
    obtain ⟨rfl, rfl⟩ : bb = false ∧ bc = false := by simpa using hb
    refine ⟨s, R, m, A, B, l, fun e => n (by rw [e]; rfl), h.split (fun e => by cases ba <;> simp_all) fun p hp h1 y H1 m1 A1 B1 P x1 r1 => ?_⟩
    refine ⟨p.2, Rv R P, m1, A1, B1, x1.li, (fun e => nomatch e), h1.next x1 (fun e => by cases ba <;> simp_all) fun q hq h2 z H2 m2 A2 B2 P2 x2 r2 => ?_⟩
    obtain ⟨rfl, rfl⟩ := r2
    have r1' := x1.keep r1 x2 (.inl rfl)
    have x := x1.seq x2
    refine ⟨q.2, Rv R (P ++ []), m2, A2, B2, x.li, (fun e => nomatch e), h2.next x (fun e => by cases ba <;> simp_all) fun t ht h3 w H3 m3 A3 B3 P3 x3 r3 => ?_⟩
    obtain ⟨rfl, rfl⟩ := r3
    have r1'' := x.keep (P := P ++ []) (by
      have e : P ++ [] = P := List.append_nil P
      rw [e] at r1' ⊢
      exact r1') x3 (.inl rfl)
    have xx := x.seq x3
    revert h3
    cases e1 : p.1.dat t.2.ob with
    | none => exact fun h => h.elim
    | some d =>
      simp only
      cases e2 : slD d q.1 t.1 with
      | none => exact fun h => h.elim
      | some r =>
        intro h3
        obtain ⟨as, d1, f⟩ := r1''.rd xx.obF e1
        refine ⟨d, as, r, d1, e2, fun v H' p' rk => ?_⟩
        obtain ⟨Ov, x', rp⟩ := xx.op (len := p.1.lh) p' rk (fun e a z => by
          rcases f a z with w | w | w
          · exact ⟨fun u => w.1 (List.mem_append_left _ u), w.2⟩
          · have w' : a ∈ P ++ [] ++ [] := List.mem_append_left _ w
            exact ⟨fun u => xx.disj a u w', xx.nr a w'⟩
          · rw [e] at w; cases w) (d1.dom)
        exact h3 v H' m3 A3 B3 Ov (x'.any (fun e => by cases ba <;> simp_all)) rp
theorem se_sl {fl fh : LS → Res (Option Int × LS)} {lo hi : Option Expr} {p2 : Pos} (hr : SlR X (Sl2 Y.K)) (ha : SE Y X ba fa ea) (hl : SO Y X bb fl lo) (hh : SO Y X bc fh hi) : SE Y X (ba || (bb || bc)) (slE (bb || bc) fa fl fh) (.Subscript ea (.Slice lo hi none p2) pos) :=
  PEw (pe_slice hr ha hl hh) fun vs H Q h => sl_conv h

/-! ### a op1 b op2 c -/
theorem chain_conv {o1 o2 : CmpOp} {vs : L2.St} {H : Hp} {Q : VK} (h : tG Y (ba || (bb || bc)) (relV Y) (chainE o1 o2 (bb || bc) fa fb fc) vs H Q) :
    tChain (Op2 Y.K (cmpK o1)) (Op2 Y.K (cmpK o2)) (tG Y ba (relV Y) fa) (tG Y bb (relV Y) fb) (tG Y bc (relV Y) fc) vs H Q := by
  obtain ⟨s, R, m, A, B, l, n, h⟩ := h
  unfold chainE at h
  cases hb : (bb || bc) with
  | true => rw [if_pos hb] at h; exact h.elim
  | false =>
    rw [if_neg (by rw [hb]; exact Bool.false_ne_true)] at h
    obtain ⟨rfl, rfl⟩ : bb = false ∧ bc = false := by simpa using hb
    refine ⟨s, R, m, A, B, l, fun e => n (by rw [e]; rfl), h.split (fun e => by cases ba <;> simp_all) fun p hp h1 y H1 m1 A1 B1 P x1 r1 => ?_⟩
    refine ⟨p.2, Rv R P, m1, A1, B1, x1.li, (fun e => nomatch e), h1.next x1 (fun e => by cases ba <;> simp_all) fun q hq h2 z H2 m2 A2 B2 P2 x2 r2 => ?_⟩
    have r1' := x1.keep r1 x2 (.inl rfl)
    have x := x1.seq x2
    have r2' := r2.fz (Fz_rv (R := R) (P := P))
    revert h2
    cases e1 : p.1.dat q.2.ob with
    | none => exact fun h => h.elim
    | some d =>
      cases e2 : q.1.dat q.2.ob with
      | none => exact fun h => h.elim
      | some e =>
        simp only
        cases e3 : cmpD o1 d e with
        | none => exact fun h => h.elim
        | some c =>
          intro h2
          obtain ⟨as, d1, f1⟩ := r1'.rd x.obF e1
          obtain ⟨bs, d2, f2⟩ := r2'.rd x.obF e2
          refine ⟨d, e, as, bs, .dat (.bool c), d1, d2, by unfold cmpK; rw [e3]; rfl, fun v H' p' rk => ?_⟩
          obtain ⟨cs, rk, _⟩ := rk
          cases rk
          refine ⟨c, rfl, ?_⟩
          have x' := x.res (Q := P ++ P2) p' (fun a z => ⟨.inl z, p'.dom a (x.ex a z)⟩) x.nd
          have d2' := d2.pres p' (fun _ z => nomatch z) (fun _ _ z => nomatch z)
          cases c with
          | false =>
            rw [if_neg Bool.false_ne_true]
            simp only [Bool.false_eq_true, if_false] at h2
            exact h2 _ H' m2 A2 B2 [] (x'.drop.any (fun e => by cases ba <;> simp_all)) (.imm (as := []) (.bl false) fun _ z => nomatch z)
          | true =>
            rw [if_pos rfl]
            simp only [if_true] at h2
            refine ⟨q.2, Rv R (P ++ P2), m2, A2, B2, x'.li, (fun e => nomatch e), h2.next x' (fun e => by cases ba <;> simp_all) fun t ht h3 w H3 m3 A3 B3 P3 x3 r3 => ?_⟩
            have xx := x'.seq x3
            have r3' := r3.fz (Fz_rv (R := R) (P := P ++ P2))
            revert h3
            cases e4 : t.1.dat t.2.ob with
            | none => exact fun h => h.elim
            | some f =>
              simp only
              cases e5 : cmpD o2 e f with
              | none => exact fun h => h.elim
              | some c2 =>
                intro h3
                obtain ⟨gs, d3, _⟩ := r3'.rd xx.obF e4
                have d2'' := d2'.pres (x3.ef rfl).2 (fun _ z => nomatch z) (fun _ _ z => nomatch z)
                refine ⟨e, f, bs, gs, .dat (.bool c2), d2'', d3, by unfold cmpK; rw [e5]; rfl, fun v H4 p4 rk => ?_⟩
                obtain ⟨cs, rk, _⟩ := rk
                cases rk
                exact h3 _ H4 m3 A3 B3 [] (((xx.res (Q := []) p4 (fun _ z => nomatch z) List.nodup_nil)).any (fun e => by cases ba <;> simp_all)) (.imm (as := []) (.bl c2) fun _ z => nomatch z)
theorem se_chain {o1 o2 : CmpOp} (h1 : OpR X (compareOp o1) (Op2 Y.K (cmpK o1))) (h2 : OpR X (compareOp o2) (Op2 Y.K (cmpK o2))) (ha : SE Y X ba fa ea) (hb : SE Y X bb fb eb) (hc : SE Y X bc fc ec) (hm : lastMarks [o1, o2] [eb, ec] = false) :
    SE Y X (ba || (bb || bc)) (chainE o1 o2 (bb || bc) fa fb fc) (.Compare ea [o1, o2] [eb, ec] pos) := PEw (pe_chain h1 h2 ha hb hc hm) fun vs H Q h => chain_conv h
theorem st_chain {o1 o2 : CmpOp} (h1 : OpR X (compareOp o1) (Op2 Y.K (cmpK o1))) (h2 : OpR X (compareOp o2) (Op2 Y.K (cmpK o2))) (ha : SE Y X ba fa ea) (hb : SE Y X bb fb eb) (hc : SE Y X bc fc ec) (hm : lastMarks [o1, o2] [eb, ec] = false) :
    ST Y X (ba || (bb || bc)) (fun s => tstR (chainE o1 o2 (bb || bc) fa fb fc s)) (.Compare ea [o1, o2] [eb, ec] pos) := st_of (pt_chain h1 h2 ha hb hc hm) fun vs H Q h => chain_conv h
end
end MP
/-! MP.12: slots given out and put back; the call of a def -/
namespace MP
open PySem PySem.Spec PyProof.Rows L2

section
variable {K : PySem.W.Frag} {H H' : Hp} {m m' : List Addr} {F F' : Addr → Prop} {vs : L2.St}
/-- a slot's thing taken out -/
theorem RpS.out {sl : List (Option LV)} {A : List Addr} (r : RpS K H m F vs sl A) : ∀ {i : Nat} {x : LV}, sl[i]? = some (some x) → ∃ v O A', vs[i]? = some (some v) ∧ Rp K H m F v x O ∧ RpS K H m F vs (sl.set i none) A' ∧ A.Perm (O ++ A') := by
  induction r with
  | nil => intro i x e; simp at e
  | @no v vs xs O r ih =>
    intro i x e
    cases i with
    | zero => simp at e
    | succ i =>
      obtain ⟨u, P, A', h1, h2, h3, h4⟩ := ih (i := i) (x := x) (by simpa using e)
      exact ⟨u, P, A', by simpa using h1, h2, by rw [List.set_cons_succ]; exact .no h3, h4⟩
  | @so v vs y xs O P h r ih =>
    intro i x e
    cases i with
    | zero =>
      cases Option.some.inj (Option.some.inj e)
      exact ⟨v, O, P, rfl, h, by rw [List.set_cons_zero]; exact .no r, List.Perm.refl _⟩
    | succ i =>
      obtain ⟨u, P', A', h1, h2, h3, h4⟩ := ih (i := i) (x := x) (by simpa using e)
      refine ⟨u, P', O ++ A', by simpa using h1, h2, by rw [List.set_cons_succ]; exact .so h h3, ?_⟩
      refine (List.Perm.append_left O h4).trans ?_
      rw [← List.append_assoc, ← List.append_assoc]
      exact List.Perm.append_right A' List.perm_append_comm
/-- a thing put into an empty slot -/
theorem RpS.put {sl : List (Option LV)} {A : List Addr} (r : RpS K H m F vs sl A) : ∀ {i : Nat} {v : V} {x : LV} {O : List Addr}, sl[i]? = some none → vs[i]? = some (some v) → Rp K H m F v x O → ∃ A', RpS K H m F vs (sl.set i (some x)) A' ∧ A'.Perm (O ++ A) := by
  induction r with
  | nil => intro i v x O e; simp at e
  | @no u us xs P r ih =>
    intro i v x O e1 e2 q
    cases i with
    | zero =>
      have e3 : u = some v := by simpa using e2
      subst e3
      exact ⟨O ++ P, by rw [List.set_cons_zero]; exact .so q r, List.Perm.refl _⟩
    | succ i =>
      obtain ⟨A', h1, h2⟩ := ih (i := i) (v := v) (x := x) (by simpa using e1) (by simpa using e2) q
      exact ⟨A', by rw [List.set_cons_succ]; exact .no h1, h2⟩
  | @so u us y xs O' P h r ih =>
    intro i v x O e1 e2 q
    cases i with
    | zero => simp at e1
    | succ i =>
      obtain ⟨A', h1, h2⟩ := ih (i := i) (v := v) (x := x) (by simpa using e1) (by simpa using e2) q
      refine ⟨O' ++ A', by rw [List.set_cons_succ]; exact .so h h1, ?_⟩
      refine (List.Perm.append_left O' h2).trans ?_
      rw [← List.append_assoc, ← List.append_assoc]
      exact List.Perm.append_right P List.perm_append_comm
theorem RpS.wiped {sl : List (Option LV)} {A : List Addr} (r : RpS K H m F vs sl A) : ∀ {i : Nat}, ∃ A' O, RpS K H m F vs (sl.set i none) A' ∧ A.Perm (O ++ A') := by
  intro i
  cases e : sl[i]? with
  | none => rw [List.set_eq_of_length_le (List.getElem?_eq_none_iff.mp e)]; exact ⟨A, [], r, List.Perm.refl _⟩
  | some y =>
    cases y with
    | none =>
      have : sl.set i none = sl := by
        apply List.ext_getElem?
        intro j
        by_cases hj : j = i
        · subst hj
          obtain ⟨h, e'⟩ := List.getElem?_eq_some_iff.mp e
          rw [List.getElem?_set_self h, e]
        · rw [List.getElem?_set_ne (Ne.symm hj)]
      rw [this]
      exact ⟨A, [], r, List.Perm.refl _⟩
    | some x =>
      obtain ⟨v, O, A', _, _, h, p⟩ := r.out e
      exact ⟨A', O, h, p⟩
theorem nlS_set {sl : List (Option LV)} (h : nlS sl = true) : ∀ (i : Nat) (x : Option LV), (∀ y, x = some y → y.nl = true) → nlS (sl.set i x) = true := by
  induction sl with
  | nil => intro i x _; simpa using h
  | cons z zs ih =>
    intro i x hx
    have hz : nlS zs = true := by
      cases z with
      | none => simpa [nlS] using h
      | some z => simp [nlS] at h; exact h.2
    cases i with
    | zero =>
      rw [List.set_cons_zero]
      cases x with
      | none => simpa [nlS] using hz
      | some y => simp [nlS, hx y rfl, hz]
    | succ i =>
      rw [List.set_cons_succ]
      cases z with
      | none => simpa [nlS] using ih hz i x hx
      | some z =>
        simp [nlS] at h ⊢
        exact ⟨h.1, ih h.2 i x hx⟩
end
end MP
namespace MP
open PySem PySem.Spec PyProof.Rows L2

/-- what a def promises: handed over xs, it does what cf tells -/
def spF (K : PySem.W.Frag) (XR : (Addr → Prop) → Hp → Nat → List PyData → Value → Option Addr → Prop) (cf : CF) (f np : Nat) (io : List Nat) : Sp := fun vs H Q E =>
  ∃ xs R O, vs.length = np ∧ Rps K H [] (Fz R O) vs xs O ∧ O.Nodup ∧ (∀ a ∈ O, ¬ R a) ∧ (∀ a, R a → H a ≠ none) ∧
    match cf f xs with
    | .ok r outs => ∀ v H' Oo Or, Pres O H H' → (∀ a, H a ≠ none → H' a ≠ none) → Rps K H' [] (Fz R (Oo ++ Or)) (io.filterMap fun i => vs[i]?) outs Oo → Rp K H' [] (Fz R (Oo ++ Or)) v r Or → (Oo ++ Or).Nodup → (∀ a ∈ Oo ++ Or, ¬ R a) → (∀ a ∈ Oo ++ Or, a ∈ O ∨ H a = none) → Q v H'
    | .exc c ps outs => ∀ cl d H' Oo, Pres O H H' → (∀ a, H a ≠ none → H' a ≠ none) → Rps K H' [] (Fz R Oo) (io.filterMap fun i => vs[i]?) outs Oo → XR (Fz R Oo) H' c ps cl d → Oo.Nodup → (∀ a ∈ Oo, ¬ R a) → (∀ a ∈ Oo, a ∈ O ∨ H a = none) → E cl d H'
    | .stuck => False

section
variable {K : PySem.W.Frag} {H H' : Hp} {m m' : List Addr} {F F' : Addr → Prop} {vs : L2.St}
mutual
theorem Rp.giv1 : ∀ {x : LV} {v : V} {O : List Addr}, Rp K H m F v x O → LV.giv.giv1 x = true → Rp K H m' F v x O
  | .imm _, _, _, .imm r f, _ => .imm r f
  | .lent _, _, _, .lent r, c => by simp [LV.giv.giv1] at c
  | .ref _, _, _, .ref e, c => by simp [LV.giv.giv1] at c
  | .lst _, _, _, .lst h r, c => .lst h (Rps.givs r (by simpa [LV.giv.giv1] using c))
  | .dic _, _, _, .dic h r, c => .dic h (Rpk.givk r (by simpa [LV.giv.giv1] using c))
  | .tup _, _, _, .tup h r, c => .tup h (Rps.givs r (by simpa [LV.giv.giv1] using c))
theorem Rps.givs : ∀ {x : List LV} {v : List V} {O : List Addr}, Rps K H m F v x O → LV.giv.givs x = true → Rps K H m' F v x O
  | [], _, _, .nil, _ => .nil
  | _ :: _, _, _, .cons r t, c => by
    simp [LV.giv.givs] at c
    exact .cons (Rp.giv1 r c.1) (Rps.givs t c.2)
theorem Rpk.givk : ∀ {x : List (Key × LV)} {v : List (Key × V)} {O : List Addr}, Rpk K H m F v x O → LV.giv.givk x = true → Rpk K H m' F v x O
  | [], _, _, .nil, _ => .nil
  | _ :: _, _, _, .cons r t, c => by
    simp [LV.giv.givk] at c
    exact .cons (Rp.giv1 r c.1) (Rpk.givk t c.2)
end
theorem Rp.giv {x : LV} {v : V} {O : List Addr} (r : Rp K H m F v x O) (c : x.giv = true) : Rp K H m' F v x O := by
  cases r with
  | lst h r => exact .lst h (Rps.givs r (by simpa [LV.giv] using c))
  | dic h r => exact .dic h (Rpk.givk r (by simpa [LV.giv] using c))
  | _ => simp [LV.giv] at c
/-- from no shared things to any -/
theorem Rp.nilm {x : LV} {v : V} {O : List Addr} (r : Rp K H [] F v x O) : Rp K H m F v x O :=
  r.pres (W := []) Pres.refl (fun b z => nomatch z) (fun _ _ e => by simp at e) (fun a f _ => f) (fun _ _ _ z => nomatch z) (fun _ _ z => nomatch z) (.inl rfl)
mutual
theorem Rp.hmF : ∀ {x : LV} {v : V} {O : List Addr}, Rp K H m F v x O → x.hm = true → Rp K H m' F' v x O
  | .imm _, _, _, .imm r f, c => .imm r fun a z => by rw [r.im (by simpa [LV.hm] using c)] at z; cases z
  | .lent _, _, _, .lent r, c => by simp [LV.hm] at c
  | .ref _, _, _, .ref e, c => by simp [LV.hm] at c
  | .lst _, _, _, .lst h r, c => .lst h (Rps.hmF r (by simpa [LV.hm] using c))
  | .dic _, _, _, .dic h r, c => .dic h (Rpk.hmF r (by simpa [LV.hm] using c))
  | .tup _, _, _, .tup h r, c => .tup h (Rps.hmF r (by simpa [LV.hm] using c))
theorem Rps.hmF : ∀ {x : List LV} {v : List V} {O : List Addr}, Rps K H m F v x O → LV.hm.hms x = true → Rps K H m' F' v x O
  | [], _, _, .nil, _ => .nil
  | _ :: _, _, _, .cons r t, c => by
    simp [LV.hm.hms] at c
    exact .cons (Rp.hmF r c.1) (Rps.hmF t c.2)
theorem Rpk.hmF : ∀ {x : List (Key × LV)} {v : List (Key × V)} {O : List Addr}, Rpk K H m F v x O → LV.hm.hmk x = true → Rpk K H m' F' v x O
  | [], _, _, .nil, _ => .nil
  | _ :: _, _, _, .cons r t, c => by
    simp [LV.hm.hmk] at c
    exact .cons (Rp.hmF r c.1) (Rpk.hmF t c.2)
end

/-- arguments: values, slots handed over -/
inductive RpA (K : PySem.W.Frag) (H : Hp) (m : List Addr) (F : Addr → Prop) (vs : L2.St) : List V → List AV → List Addr → Prop
  | nil : RpA K H m F vs [] [] []
  | dat {v : V} {us : List V} {x : LV} {as : List AV} {O P : List Addr} : Rp K H m F v x O → RpA K H m F vs us as P → RpA K H m F vs (v :: us) (.dat x :: as) (O ++ P)
  | slot {i : Nat} {v : V} {us : List V} {as : List AV} {P : List Addr} : vs[i]? = some (some v) → RpA K H m F vs us as P → RpA K H m F vs (v :: us) (.slot i :: as) P
theorem wipeL_get {sl : List (Option LV)} {is : List Nat} {i : Nat} (h : i ∉ is) : (wipeL sl is)[i]? = sl[i]? := by
  induction is with
  | nil => rfl
  | cons j js ih =>
    unfold wipeL
    rw [List.getElem?_set_ne (fun e => h (by rw [e]; exact List.mem_cons_self)), ih fun z => h (List.mem_cons_of_mem _ z)]
theorem wipeL_len {sl : List (Option LV)} {is : List Nat} : (wipeL sl is).length = sl.length := by
  induction is with
  | nil => rfl
  | cons j js ih => unfold wipeL; rw [List.length_set, ih]
theorem distinct_cons {i : Nat} {is : List Nat} (h : distinct (i :: is) = true) : i ∉ is ∧ distinct is = true := by
  simpa [distinct] using h
end

section
variable {Y : Yx} {H H' : Hp} {m m' : List Addr} {vs : L2.St}
/-- the arguments, as the def gets them -/
theorem args_rp {s : LS} {R : Addr → Prop} {P A B : List Addr} (l : LI Y.K H (Rv R P) vs s m A B) : ∀ {us : List V} {as : List AV} {Q : List Addr} {xs : List LV} {G : Addr → Prop}, RpA Y.K H m G vs us as Q → argsOf s as = some xs → distinct (slotsOf as) = true → (∀ a, G a → a ∉ A ++ B ∧ ¬ R a) → (∀ a ∈ Q, a ∈ P) →
    ∃ (Oin A' L : List Addr), A.Perm (Oin ++ A') ∧ RpS Y.K H m (Fz (Rv R P) (A ++ B)) vs (wipeL s.sl (slotsOf as)) A' ∧ Rps Y.K H [] (fun a => Fz (Rv R P) (A ++ B) a ∨ a ∈ L) us xs Oin ∧ (∀ a ∈ L, H a ≠ none ∧ ((a ∉ A ++ B ∧ ¬ R a) ∨ a ∈ P ∨ lhs (dataOf as) = true)) ∧ (slotsOf as = [] → Oin = [] ∧ A' = A)
  | _, _, _, _, _, .nil, e, _, _, _ => by
    cases e
    exact ⟨[], A, [], List.Perm.refl _, l.sl, .nil, (fun _ z => nomatch z), fun _ => ⟨rfl, rfl⟩⟩
  | _, _, _, _, G, @RpA.dat _ _ _ _ _ v us x as O P' r t, e, hd, hG, hQ => by
    unfold argsOf at e
    split at e
    · rename_i d ds e1 e2
      cases e
      obtain ⟨Oin, A', L, h1, h2, h3, h4, h5⟩ := args_rp l t e2 hd hG (fun a z => hQ a (List.mem_append_right _ z))
      obtain ⟨bs, q, f⟩ := (r.fz (F' := fun a => G a ∨ Fz (Rv R P) (A ++ B) a) fun a w => .inl w).rd (l.ob.fz fun a w => .inr w) e1
      refine ⟨Oin, A', L ++ bs, h1, h2, ?_, fun a z => ?_, h5⟩
      · refine .cons (O := []) (.imm q fun a z => .inr (List.mem_append_right _ z)) (h3.fz fun a w => w.imp id (List.mem_append_left _))
      · rcases List.mem_append.mp z with z | z
        · obtain ⟨n, w⟩ := h4 a z
          refine ⟨n, w.imp id fun w => w.imp id fun w => ?_⟩
          simp only [dataOf, lhs, List.any_cons, Bool.or_eq_true]
          exact .inr w
        · refine ⟨q.dom a z, ?_⟩
          rcases f a z with w | w | w
          · exact .inl (w.elim (hG a) fun w => ⟨w.1, fun u => w.2 (.inl u)⟩)
          · exact .inr (.inl (hQ a (List.mem_append_left _ w)))
          · right; right
            simp [dataOf, lhs, w]
    · cases e
  | _, _, _, _, G, @RpA.slot _ _ _ _ _ i v us as P' hv t, e, hd, hG, hQ => by
    unfold argsOf at e
    split at e
    · rename_i x ds e1 e2
      split at e
      · rename_i hg
        cases e
        obtain ⟨hn, hd'⟩ := distinct_cons (i := i) (is := slotsOf as) hd
        obtain ⟨Oin, A', L, h1, h2, h3, h4, h5⟩ := args_rp l t e2 hd' hG hQ
        obtain ⟨w, O, A2, q1, q2, q3, q4⟩ := h2.out (i := i) (x := x) (by rw [wipeL_get hn]; exact e1)
        rw [hv] at q1
        cases Option.some.inj (Option.some.inj q1)
        refine ⟨O ++ Oin, A2, L, ?_, q3, .cons ((q2.giv hg).fz fun a f => .inl f) h3, h4, (fun z => nomatch z)⟩
        refine h1.trans ((List.Perm.append_left Oin q4).trans ?_)
        rw [← List.append_assoc]
        exact List.Perm.append_right A2 List.perm_append_comm
      · cases e
    · cases e

theorem pick_rp {K : PySem.W.Frag} {F : Addr → Prop} {A0 : List Addr} : ∀ {is : List Nat} {sl sl' : List (Option LV)} {A : List Addr} {us : List V} {outs : List LV} {O : List Addr}, RpS K H m F vs sl A → Rps K H [] F us outs O → setOuts is outs sl = some sl' → (∀ i ∈ is, sl[i]? = some none) → distinct is = true →
    (∀ (k i : Nat), is[k]? = some i → ∃ v : V, us[k]? = some v ∧ vs[i]? = some (some v)) → ∃ A', RpS K H m F vs sl' A' ∧ A'.Perm (O ++ A)
  | [], _, _, A, _, _, _, r, .nil, e, _, _, _ => by cases e; exact ⟨A, r, List.Perm.refl _⟩
  | [], _, _, _, _, _, _, _, .cons _ _, e, _, _, _ => by cases e
  | _ :: _, _, _, _, _, _, _, _, .nil, e, _, _, _ => by cases e
  | i :: is, sl, sl', A, _, _, _, r, @Rps.cons _ _ _ _ v us x xs O P q t, e, hn, hd, hv => by
    obtain ⟨hi, hd'⟩ := distinct_cons hd
    obtain ⟨w, e1, e2⟩ := hv 0 i rfl
    cases Option.some.inj e1
    obtain ⟨A1, r1, p1⟩ := r.put (hn i List.mem_cons_self) e2 q.nilm
    obtain ⟨A2, r2, p2⟩ := pick_rp (A0 := A0) r1 t e (fun j hj => by
      rw [List.getElem?_set_ne (fun e => hi (by rw [e]; exact hj))]
      exact hn j (List.mem_cons_of_mem _ hj)) hd' fun k j hk => by simpa using hv (k + 1) j (by simpa using hk)
    refine ⟨A2, r2, p2.trans ((List.Perm.append_left P p1).trans ?_)⟩
    rw [← List.append_assoc]
    exact List.Perm.append_right A List.perm_append_comm
theorem wipe_none {sl : List (Option LV)} : ∀ {is : List Nat} {i : Nat}, i ∈ is → i < sl.length → (wipeL sl is)[i]? = some none
  | j :: js, i, h, hl => by
    unfold wipeL
    by_cases e : i = j
    · subst e; rw [List.getElem?_set_self (by rw [wipeL_len]; exact hl)]
    · rw [List.getElem?_set_ne (Ne.symm e)]
      exact wipe_none (by simpa [e] using h) hl
/-- which slots are handed over, and where they stand among the arguments -/
def ioAt : Nat → List AV → List Nat
  | _, [] => []
  | n, .dat _ :: r => ioAt (n + 1) r
  | n, .slot _ :: r => n :: ioAt (n + 1) r
theorem slots_at {K : PySem.W.Frag} {G : Addr → Prop} : ∀ {us : List V} {as : List AV} {P : List Addr} {pre : List V}, RpA K H m G vs us as P → ∀ (k i : Nat), (slotsOf as)[k]? = some i → ∃ v : V, ((ioAt pre.length as).filterMap fun j => (pre ++ us)[j]?)[k]? = some v ∧ vs[i]? = some (some v)
  | _, _, _, pre, .nil, k, i, e => by simp [slotsOf] at e
  | _, _, _, pre, @RpA.dat _ _ _ _ _ v us x as O P r t, k, i, e => by
    have q := slots_at (pre := pre ++ [v]) t k i e
    simpa [ioAt] using q
  | _, _, _, pre, @RpA.slot _ _ _ _ _ j v us as P hv t, k, i, e => by
    have hp : (pre ++ v :: us)[pre.length]? = some v := by simp
    cases k with
    | zero =>
      have e' : j = i := by simpa [slotsOf] using e
      subst e'
      exact ⟨v, by simp [ioAt, hp], hv⟩
    | succ k =>
      obtain ⟨w, q1, q2⟩ := slots_at (pre := pre ++ [v]) t k i (by simpa [slotsOf] using e)
      refine ⟨w, ?_, q2⟩
      rw [ioAt, List.filterMap_cons, hp]
      simpa using q1
theorem args_lt {s : LS} : ∀ {as : List AV} {xs : List LV}, argsOf s as = some xs → ∀ i ∈ slotsOf as, i < s.sl.length
  | [], _, _, i, z => by cases z
  | .dat x :: as, xs, e, i, z => by
    unfold argsOf at e
    split at e
    · rename_i e1 e2; exact args_lt e2 i z
    · cases e
  | .slot j :: as, xs, e, i, z => by
    unfold argsOf at e
    split at e
    · rename_i e1 e2
      rcases List.mem_cons.mp z with z | z
      · rw [z]; exact (List.getElem?_eq_some_iff.mp e1).1
      · exact args_lt e2 i z
    · cases e
theorem RpA.len {K : PySem.W.Frag} {G : Addr → Prop} : ∀ {us : List V} {as : List AV} {P : List Addr}, RpA K H m G vs us as P → us.length = as.length
  | _, _, _, .nil => rfl
  | _, _, _, .dat _ t => by simp [RpA.len t]
  | _, _, _, .slot _ t => by simp [RpA.len t]
end
end MP
/-! MP.13: the call of a def -/
namespace MP
open PySem PySem.Spec PyProof.Rows L2

def shp : List AV → List (Option Nat)
  | [] => []
  | .dat _ :: r => none :: shp r
  | .slot i :: r => some i :: shp r
def ioOf : Nat → List (Option Nat) → List Nat
  | _, [] => []
  | n, none :: r => ioOf (n + 1) r
  | n, some _ :: r => n :: ioOf (n + 1) r
theorem ioAt_shp : ∀ (n : Nat) (as : List AV), ioAt n as = ioOf n (shp as)
  | _, [] => rfl
  | n, .dat _ :: r => ioAt_shp (n + 1) r
  | n, .slot _ :: r => by show n :: ioAt (n + 1) r = _; rw [ioAt_shp (n + 1) r]; rfl
theorem shp_len : ∀ as : List AV, (shp as).length = as.length
  | [] => rfl
  | .dat _ :: r => by simp [shp, shp_len r]
  | .slot _ :: r => by simp [shp, shp_len r]

abbrev relA (Y : Yx) (vs : L2.St) (b : Bool) (sh : List (Option Nat)) : Rel (List AV) (List V) := fun H m F us as O => RpA Y.K H m F vs us as O ∧ shp as = sh ∧ (b = false → slotsOf as = [])
abbrev tA (Y : Yx) (b : Bool) (sh : List (Option Nat)) (f : LS → Res (List AV × LS)) : TA := fun vs H Q => tG Y b (relA Y vs b sh) f vs H Q
abbrev SC (Y : Yx) (X : Cx) (b : Bool) (sh : List (Option Nat)) (f : LS → Res (List AV × LS)) (es : List Expr) : Prop := PA X es (tA Y b sh f)

section
variable {Y : Yx} {H H' H1 H2 : Hp} {R : Addr → Prop} {vs : L2.St} {s s' s1 s2 : LS} {m m' m1 m2 : List Addr} {A B A' B' A1 B1 A2 B2 P : List Addr} {b b1 b2 : Bool}
theorem setOuts_nil {outs : List LV} {sl sl' : List (Option LV)} (e : setOuts [] outs sl = some sl') : outs = [] ∧ sl' = sl := by
  cases outs with
  | nil => cases e; exact ⟨rfl, rfl⟩
  | cons x xs => cases e
theorem nl_outs : ∀ {is : List Nat} {outs : List LV} {sl sl' : List (Option LV)}, setOuts is outs sl = some sl' → nlAll outs = true → nlS sl = true → nlS sl' = true
  | [], [], _, _, e, _, h => by cases e; exact h
  | [], _ :: _, _, _, e, _, _ => by cases e
  | _ :: _, [], _, _, e, _, _ => by cases e
  | i :: is, x :: xs, sl, sl', e, n, h => by
    simp only [nlAll, List.all_cons, Bool.and_eq_true] at n
    exact nl_outs (sl := sl.set i (some x)) e n.2 (nlS_set h i _ fun y e => by cases e; exact n.1)
theorem nl_wipe {sl : List (Option LV)} (h : nlS sl = true) : ∀ is : List Nat, nlS (wipeL sl is) = true
  | [] => h
  | i :: is => by unfold wipeL; exact nlS_set (nl_wipe h is) i none fun y e => nomatch e

/-- behind a call: the state with what was handed over set anew -/
theorem call_end {as : List AV} {us : List V} {xs outs : List LV} {sl' : List (Option LV)} {Oin A0 L Oo Or : List Addr} {cf : CF} (x1 : Stp Y.K H R vs s m A B b H1 s1 m1 A1 B1 P) (nl0 : b = true → nlL s = true) (ra : RpA Y.K H1 m1 (Fz R (A1 ++ B1 ++ P)) vs us as P)
    (bs : b = false → slotsOf as = [])
    (e1 : argsOf s1 as = some xs) (hd : distinct (slotsOf as) = true) (hl : lhs (dataOf as) = true → slotsOf as = [])
    (p1 : A1.Perm (Oin ++ A0)) (p2 : RpS Y.K H1 m1 (Fz (Rv R P) (A1 ++ B1)) vs (wipeL s1.sl (slotsOf as)) A0) (p4 : ∀ a ∈ L, H1 a ≠ none ∧ ((a ∉ A1 ++ B1 ∧ ¬ R a) ∨ a ∈ P ∨ lhs (dataOf as) = true)) (p5 : slotsOf as = [] → Oin = [] ∧ A0 = A1)
    (hp : Pres Oin H1 H') (hdm : ∀ a, H1 a ≠ none → H' a ≠ none)
    (ro : Rps Y.K H' [] (Fz (fun a => H1 a ≠ none ∧ ¬ (Fz (Rv R P) (A1 ++ B1) a ∨ a ∈ L) ∧ a ∉ Oin) (Oo ++ Or)) ((ioAt 0 as).filterMap fun i => us[i]?) outs Oo)
    (nd : (Oo ++ Or).Nodup) (hor : ∀ a ∈ Oo ++ Or, a ∈ Oin ∨ H1 a = none) (hox : ∀ a ∈ Or, H' a ≠ none) (nlo : nlAll outs = true) (eo : setOuts (slotsOf as) outs (wipeL s1.sl (slotsOf as)) = some sl') :
    ∃ A2, Stp Y.K H R vs s m A B b H' ⟨sl', s1.ob⟩ m1 A2 B1 Or ∧ (lhs (dataOf as) = false → ∀ a, Fz (fun a => H1 a ≠ none ∧ ¬ (Fz (Rv R P) (A1 ++ B1) a ∨ a ∈ L) ∧ a ∉ Oin) (Oo ++ Or) a → Fz R (A2 ++ B1 ++ Or) a) := by
  have mA : ∀ {a}, a ∈ Oin → a ∈ A1 := fun z => p1.mem_iff.mpr (List.mem_append_left _ z)
  have mA0 : ∀ {a}, a ∈ A0 → a ∈ A1 := fun z => p1.mem_iff.mpr (List.mem_append_right _ z)
  have ndA : (Oin ++ A0).Nodup := p1.nodup_iff.mp (List.nodup_append.mp x1.li.nd).1
  have dAB : ∀ a ∈ A1, a ∉ B1 := fun a h1 h2 => (List.nodup_append.mp x1.li.nd).2.2 a h1 a h2 rfl
  have dIO : ∀ a ∈ Oin, a ∉ A0 := fun a h1 h2 => (List.nodup_append.mp ndA).2.2 a h1 a h2 rfl
  have exA : ∀ a ∈ A1 ++ B1, H1 a ≠ none := x1.li.exists
  have nR : ∀ a, a ∈ Oin ∨ H1 a = none → ¬ R a := fun a h z => by
    rcases h with h | h
    · exact x1.li.nr a (List.mem_append_left _ (mA h)) (.inl z)
    · exact x1.li.rs a (.inl z) h
  have offA : ∀ a, a ∈ Oin ∨ H1 a = none → a ∉ A0 ∧ a ∉ B1 := fun a h => by
    rcases h with h | h
    · exact ⟨dIO a h, dAB a (mA h)⟩
    · exact ⟨fun z => exA a (List.mem_append_left _ (mA0 z)) h, fun z => exA a (List.mem_append_right _ z) h⟩
  have hfr : lhs (dataOf as) = false → ∀ a, Fz (fun a => H1 a ≠ none ∧ ¬ (Fz (Rv R P) (A1 ++ B1) a ∨ a ∈ L) ∧ a ∉ Oin) (Oo ++ Or) a → (a ∉ A0 ∧ a ∉ B1) ∧ ¬ R a := fun hl0 a f => by
    by_cases h1 : a ∈ Oin ∨ H1 a = none
    · exact ⟨offA a h1, nR a h1⟩
    · have h2 : Fz (Rv R P) (A1 ++ B1) a ∨ a ∈ L := Classical.byContradiction fun z => f.2 ⟨fun w => h1 (.inr w), z, fun w => h1 (.inl w)⟩
      have off : a ∉ A1 ++ B1 → a ∉ A0 ∧ a ∉ B1 := fun z => ⟨fun w => z (List.mem_append_left _ (mA0 w)), fun w => z (List.mem_append_right _ w)⟩
      rcases h2 with h2 | h2
      · exact ⟨off h2.1, fun w => h2.2 (.inl w)⟩
      · rcases (p4 a h2).2 with w | w | w
        · exact ⟨off w.1, w.2⟩
        · exact ⟨off fun u => x1.disj a u w, x1.nr a w⟩
        · rw [hl0] at w; cases w
  have ndO := List.nodup_append.mp nd
  have hoff : ∀ a, a ∈ A1 ++ B1 → Fz R (Oo ++ A0 ++ (B1 ++ Or)) a ∨ a ∈ A0 ++ B1 ∨ a ∈ Oin := fun a h => by
    rcases List.mem_append.mp h with h | h
    · rcases List.mem_append.mp (p1.mem_iff.mp h) with h | h
      · exact .inr (.inr h)
      · exact .inr (.inl (List.mem_append_left _ h))
    · exact .inr (.inl (List.mem_append_right _ h))
  have F1 : ∀ a, Fz (Rv R P) (A1 ++ B1) a → H1 a ≠ none → Fz R (Oo ++ A0 ++ (B1 ++ Or)) a := fun a f n => by
    have new : a ∈ Oin ∨ H1 a = none → False := fun w => w.elim (fun w => f.1 (List.mem_append_left _ (mA w))) n
    refine ⟨fun w => ?_, fun w => f.2 (.inl w)⟩
    rcases List.mem_append.mp w with w | w <;> rcases List.mem_append.mp w with w | w
    · exact new (hor a (List.mem_append_left _ w))
    · exact f.1 (List.mem_append_left _ (mA0 w))
    · exact f.1 (List.mem_append_right _ w)
    · exact new (hor a (List.mem_append_right _ w))
  have wmI : WM Oin H1 := fun a z => x1.li.own a (List.mem_append_left _ (mA z))
  have hcS : Oin = [] ∨ nlL s1 = true := by
    cases e : b with
    | false => exact .inl (p5 (bs e)).1
    | true => exact .inr (x1.nl (nl0 e))
  have q1 : RpS Y.K H' m1 (Fz R (Oo ++ A0 ++ (B1 ++ Or))) vs (wipeL s1.sl (slotsOf as)) A0 :=
    p2.pres hp wmI (fun _ _ e => e) F1 (fun a f _ w => f.1 (List.mem_append_left _ (mA w))) (fun a z w => dIO a w z) (hcS.imp id fun h => by
      simp only [nlL, Bool.and_eq_true] at h
      exact nl_wipe h.1 _)
  have fo : lhs (dataOf as) = false → ∀ a, Fz (fun a => H1 a ≠ none ∧ ¬ (Fz (Rv R P) (A1 ++ B1) a ∨ a ∈ L) ∧ a ∉ Oin) (Oo ++ Or) a → Fz R (Oo ++ A0 ++ (B1 ++ Or)) a := fun hl0 a f => ⟨fun w => by
    rcases List.mem_append.mp w with w | w <;> rcases List.mem_append.mp w with w | w
    · exact f.1 (List.mem_append_left _ w)
    · exact (hfr hl0 a f).1.1 w
    · exact (hfr hl0 a f).1.2 w
    · exact f.1 (List.mem_append_right _ w), (hfr hl0 a f).2⟩
  obtain ⟨A2, q2, pm, h0⟩ : ∃ A2, RpS Y.K H' m1 (Fz R (Oo ++ A0 ++ (B1 ++ Or))) vs sl' A2 ∧ A2.Perm (Oo ++ A0) ∧ (slotsOf as = [] → A2 = A1 ∧ sl' = s1.sl) := by
    by_cases hs : slotsOf as = []
    · have hio : ioAt 0 as = [] := by
        have : ∀ (n : Nat) (as : List AV), slotsOf as = [] → ioAt n as = [] := by
          intro n as
          induction as generalizing n with
          | nil => intro _; rfl
          | cons a as ih =>
            cases a with
            | dat x => intro h; exact ih (n + 1) h
            | slot i => intro h; cases h
        exact this 0 as hs
      rw [hio] at ro
      have hoo : outs = [] ∧ Oo = [] := by
        generalize hG : Fz (fun a => H1 a ≠ none ∧ ¬ (Fz (Rv R P) (A1 ++ B1) a ∨ a ∈ L) ∧ a ∉ Oin) (Oo ++ Or) = G at ro
        cases ro
        exact ⟨rfl, rfl⟩
      obtain ⟨rfl, ho⟩ := hoo
      rw [hs] at eo
      obtain ⟨_, e2⟩ := setOuts_nil eo
      refine ⟨A0, ?_, by rw [ho]; exact List.Perm.refl _, fun _ => ⟨(p5 hs).2, e2⟩⟩
      rw [hs] at q1
      rw [e2]
      exact q1
    · have hl0 : lhs (dataOf as) = false := by
        cases e : lhs (dataOf as) with
        | false => rfl
        | true => exact absurd (hl e) hs
      obtain ⟨A2, h1, h2⟩ := pick_rp (A0 := A0) q1 (ro.fz fun a f => fo hl0 a f) eo (fun i hi => wipe_none hi (args_lt e1 i hi)) hd (slots_at (pre := []) ra)
      exact ⟨A2, h1, h2, fun h => absurd h hs⟩
  have m3 : ∀ {a}, a ∈ A2 → a ∈ Oo ∨ a ∈ A0 := fun z => List.mem_append.mp (pm.mem_iff.mp z)
  have F32 : ∀ a, Fz R (Oo ++ A0 ++ (B1 ++ Or)) a → Fz R (A2 ++ B1 ++ Or) a := fun a f => ⟨fun w => f.1 (by
    rcases List.mem_append.mp w with w | w
    · rcases List.mem_append.mp w with w | w
      · exact List.mem_append_left _ (pm.mem_iff.mp w)
      · exact List.mem_append_right _ (List.mem_append_left _ w)
    · exact List.mem_append_right _ (List.mem_append_right _ w)), f.2⟩
  have FR : ∀ a, Fz R (A2 ++ B1 ++ Or) a → Fz (Rv R Or) (A2 ++ B1) a := fun a f => ⟨fun w => f.1 (List.mem_append_left _ w), fun w => w.elim f.2 fun w => f.1 (List.mem_append_right _ w)⟩
  have or3 : ∀ a ∈ Or, a ∉ A2 ++ B1 := fun a h w => by
    have h' := hor a (List.mem_append_right _ h)
    rcases List.mem_append.mp w with w | w
    · rcases m3 w with w | w
      · exact ndO.2.2 a w a h rfl
      · exact (offA a h').1 w
    · exact (offA a h').2 w
  have nd3 : (A2 ++ B1).Nodup := by
    refine List.nodup_append.mpr ⟨pm.nodup_iff.mpr (List.nodup_append.mpr ⟨ndO.1, (List.nodup_append.mp ndA).2.1, fun a h1 c h2 e => ?_⟩), (List.nodup_append.mp x1.li.nd).2.1, fun a h1 c h2 e => ?_⟩
    · subst e; exact (offA a (hor a (List.mem_append_left _ h1))).1 h2
    · subst e
      rcases m3 h1 with h1 | h1
      · exact (offA a (hor a (List.mem_append_left _ h1))).2 h2
      · exact dAB a (mA0 h1) h2
  have L2' : LI Y.K H' (Rv R Or) vs ⟨sl', s1.ob⟩ m1 A2 B1 := by
    refine ⟨?_, ?_, nd3, fun a z w => ?_, fun a z => ?_⟩
    · exact q2.pres (W := []) Pres.refl (fun b z => nomatch z) (fun _ _ e => e) (fun a f _ => FR a (F32 a f)) (fun _ _ _ z => nomatch z) (fun _ _ z => nomatch z) (.inl rfl)
    · exact x1.li.ob.pres hp wmI (fun _ _ e => e) (fun a f n => FR a (F32 a (F1 a f n))) (fun a f _ w => f.1 (List.mem_append_left _ (mA w))) (fun a z w => dAB a (mA w) z) (hcS.imp id fun h => by
        simp only [nlL, Bool.and_eq_true] at h
        exact h.2)
    · rcases w with w | w
      · rcases List.mem_append.mp z with z | z
        · rcases m3 z with z | z
          · exact nR a (hor a (List.mem_append_left _ z)) w
          · exact x1.li.nr a (List.mem_append_left _ (mA0 z)) (.inl w)
        · exact x1.li.nr a (List.mem_append_right _ z) (.inl w)
      · exact or3 a w z
    · rcases z with z | z
      · exact hdm a (x1.li.rs a (.inl z))
      · exact hox a z
  have old : ∀ a, a ∈ Oin ∨ H1 a = none → a ∈ A ++ B ∨ H a = none := fun a h => by
    rcases h with h | h
    · exact x1.gr a (.inl (List.mem_append_left _ (mA h)))
    · cases e : H a with
      | none => exact .inr rfl
      | some o =>
        by_cases u : a ∈ A ++ B
        · exact .inl u
        · rw [x1.pr a o e u] at h; cases h
  refine ⟨A2, ⟨L2', ndO.2.1, fun a z => nR a (hor a (List.mem_append_right _ z)), hox, ?_, fun a n => hdm a (x1.dm a n), fun a z => ?_, x1.mm, fun h => ?_, fun h => ?_⟩, fun hl0 a f => F32 a (fo hl0 a f)⟩
  · exact x1.pr.trans hp fun a z => x1.gr a (.inl (List.mem_append_left _ (mA z)))
  · rcases z with z | z
    · rcases List.mem_append.mp z with z | z
      · rcases m3 z with z | z
        · exact old a (hor a (List.mem_append_left _ z))
        · exact x1.gr a (.inl (List.mem_append_left _ (mA0 z)))
      · exact x1.gr a (.inl (List.mem_append_right _ z))
    · exact old a (hor a (List.mem_append_right _ z))
  · have h1 := x1.nl h
    simp only [nlL, Bool.and_eq_true] at h1 ⊢
    exact ⟨nl_outs eo nlo (nl_wipe h1.1 _), h1.2⟩
  · obtain ⟨f1, f5⟩ := x1.ef h
    have hs := bs h
    obtain ⟨e3, e4⟩ := h0 hs
    refine ⟨by rw [e4, ← f1], ?_⟩
    rw [(p5 hs).1] at hp
    exact f5.trans hp fun a z => nomatch z

theorem argsOf_len {s : LS} : ∀ {as : List AV} {xs : List LV}, argsOf s as = some xs → xs.length = as.length
  | [], _, e => by cases e; rfl
  | .dat x :: as, xs, e => by
    unfold argsOf at e
    split at e
    · rename_i e1 e2; cases e; simp [argsOf_len e2]
    · cases e
  | .slot j :: as, xs, e => by
    unfold argsOf at e
    split at e
    · rename_i e1 e2
      split at e
      · cases e; simp [argsOf_len e2]
      · cases e
    · cases e
theorem call_conv {cf : CF} {f np : Nat} {io : List Nat} {sh : List (Option Nat)} {ga : LS → Res (List AV × LS)} {vs : L2.St} {H : Hp} {Q : VK} (hio : ioOf 0 sh = io) (hnp : sh.length = np) (h : tG Y b (relV Y) (callEE cf f ga) vs H Q) :
    tA Y b sh ga vs H (fun us H1 => spF Y.K Y.XR cf f np io us H1 Q (fun cl d H' => Y.W cl d vs H')) := by
  obtain ⟨s, R, m, A, B, l, n, h⟩ := h
  refine ⟨s, R, m, A, B, l, n, h.split id fun p hp h1 us H1 m1 A1 B1 P x1 r1 => ?_⟩
  obtain ⟨as, s1⟩ := p
  obtain ⟨ra, hsh, hbs⟩ := r1
  simp only at h1 x1 ra hsh hbs
  unfold callE at h1
  cases e1 : argsOf s1 as with
  | none => rw [e1] at h1; exact h1.elim
  | some xs =>
    rw [e1] at h1
    simp only at h1
    by_cases hc : distinct (slotsOf as) = true ∧ (lhs (dataOf as) = true → slotsOf as = [])
    case neg => rw [if_neg hc] at h1; exact h1.elim
    rw [if_pos hc] at h1
    obtain ⟨Oin, A0, L, p1, p2, p3, p4, p5⟩ := args_rp x1.li ra e1 hc.1 (fun a f => ⟨fun w => f.1 (List.mem_append_left _ w), f.2⟩) (fun a z => z)
    have mA : ∀ {a}, a ∈ Oin → a ∈ A1 := fun z => p1.mem_iff.mpr (List.mem_append_left _ z)
    have ndA : (Oin ++ A0).Nodup := p1.nodup_iff.mp (List.nodup_append.mp x1.li.nd).1
    have hio' : ioAt 0 as = io := by rw [ioAt_shp, hsh, hio]
    refine ⟨xs, (fun a => H1 a ≠ none ∧ ¬ (Fz (Rv R P) (A1 ++ B1) a ∨ a ∈ L) ∧ a ∉ Oin), Oin, by rw [ra.len, ← shp_len, hsh, hnp], ?_, (List.nodup_append.mp ndA).1, fun a z w => w.2.2 z, fun a w => w.1, ?_⟩
    · refine p3.fz fun a f => ⟨fun w => ?_, fun w => w.2.1 f⟩
      rcases f with f | f
      · exact f.1 (List.mem_append_left _ (mA w))
      · rcases (p4 a f).2 with q | q | q
        · exact q.1 (List.mem_append_left _ (mA w))
        · exact x1.disj a (List.mem_append_left _ (mA w)) q
        · rw [(p5 (hc.2 q)).1] at w; cases w
    · rw [← hio']
      cases ec : cf f xs with
      | stuck => rw [ec] at h1; exact h1.elim
      | ok r outs =>
        rw [ec] at h1
        simp only at h1 ⊢
        by_cases hn : (lhs (dataOf as) = true ∧ r.hm = false) ∨ r.nl = false ∨ nlAll outs = false
        · rw [if_pos hn] at h1; exact h1.elim
        rw [if_neg hn] at h1
        cases eo : setOuts (slotsOf as) outs (wipeL s1.sl (slotsOf as)) with
        | none => rw [eo] at h1; exact h1.elim
        | some sl' =>
          rw [eo] at h1
          intro v H' Oo Or q1 q2 q3 q4 q5 q6 q7
          have exr : ∀ a ∈ Or, H' a ≠ none := fun a z w => by
            rcases q4.own a z with ⟨_, e⟩ | ⟨_, e⟩ <;> rw [w] at e <;> cases e
          obtain ⟨A2, x2, hf⟩ := call_end (cf := cf) x1 n ra hbs e1 hc.1 hc.2 p1 p2 p4 p5 q1 q2 q3 q5 q7 exr (by
            cases e : nlAll outs with
            | true => rfl
            | false => exact absurd (.inr (.inr e)) hn) eo
          refine h1 v H' m1 A2 B1 Or x2 ?_
          cases hl0 : lhs (dataOf as) with
          | true =>
            refine q4.hmF ?_
            cases e : r.hm with
            | true => rfl
            | false => exact absurd (.inl ⟨hl0, e⟩) hn
          | false => exact (q4.fz fun a f => hf hl0 a f).nilm
      | exc c ps outs =>
        rw [ec] at h1
        simp only at h1 ⊢
        by_cases hn : nlAll outs = false ∨ (lhs (dataOf as) = true ∧ ims ps = false)
        · rw [if_pos hn] at h1; exact h1.elim
        rw [if_neg hn] at h1
        cases eo : setOuts (slotsOf as) outs (wipeL s1.sl (slotsOf as)) with
        | none => rw [eo] at h1; exact h1.elim
        | some sl' =>
          rw [eo] at h1
          intro cl d H' Oo q1 q2 q3 q4 q5 q6 q7
          obtain ⟨A2, x2, hf⟩ := call_end (cf := cf) (Or := []) x1 n ra hbs e1 hc.1 hc.2 p1 p2 p4 p5 q1 q2 (by rw [List.append_nil]; exact q3) (by rw [List.append_nil]; exact q5) (by rw [List.append_nil]; exact q7) (fun _ z => nomatch z) (by
            cases e : nlAll outs with
            | true => rfl
            | false => exact absurd (.inl e) hn) eo
          refine h1 cl d H' m1 A2 B1 x2 (Y.mono _ _ _ _ _ _ _ ?_ q4)
          cases hl0 : lhs (dataOf as) with
          | true =>
            left
            cases e : ims ps with
            | true => rfl
            | false => exact absurd (.inr ⟨hl0, e⟩) hn
          | false =>
            right
            intro a f _
            have f' := hf hl0 a (by rw [List.append_nil]; exact f)
            rw [List.append_nil] at f'
            exact f'
end

section
variable {Y : Yx} {X : Cx} {ea : Expr} {es : List Expr} {ba bb b : Bool} {fa : EvF} {ga : LS → Res (List AV × LS)} {sh : List (Option Nat)} {pos : Pos} {k : Nat} {f : Addr} {fd : FuncData} {ps : List Str} {x : Str} {p : Pos}
theorem sc_nil : SC Y X b [] (fun s => .ok ([], s)) [] := PAw pa_nil fun vs H Q h => by
  obtain ⟨s, R, m, A, B, l, n, h⟩ := h
  exact h [] H m A B [] (Stp.refl l) ⟨.nil, rfl, fun _ => rfl⟩
theorem RpA.keep {H1 H2 : Hp} {vs : L2.St} {m1 m2 : List Addr} {F F' : Addr → Prop} (hp : Pres [] H1 H2) : True := trivial
theorem scc_conv {vs : L2.St} {H : Hp} {Q : List V → Hp → Prop} (h : tG Y (ba || bb) (relA Y vs (ba || bb) (none :: sh)) (consC bb fa ga) vs H Q) : tCons (tG Y ba (relV Y) fa) (tA Y bb sh ga) vs H Q := by
  obtain ⟨s, R, m, A, B, l, n, h⟩ := h
  refine ⟨s, R, m, A, B, l, fun e => n (by rw [e]; rfl), h.split (fun e => by cases ba <;> simp_all) fun p hp h1 y H1 m1 A1 B1 P x1 r1 => ?_⟩
  by_cases hc : bb = true ∧ p.1.nl = false
  · rw [if_pos hc] at h1; exact h1.elim
  rw [if_neg hc] at h1
  refine ⟨p.2, Rv R P, m1, A1, B1, x1.li, fun e => x1.nl (n (by rw [e]; cases ba <;> rfl)), h1.next x1 (fun e => by cases ba <;> cases bb <;> simp_all) fun q hq h2 z H2 m2 A2 B2 P2 x2 r2 => ?_⟩
  have r1' := x1.keep r1 x2 (by
    cases e : bb with
    | false => exact .inl rfl
    | true =>
      right
      cases e2 : p.1.nl with
      | true => rfl
      | false => exact absurd ⟨e, e2⟩ hc)
  obtain ⟨ra, hs, hb⟩ := r2
  have rf : ∀ {us : List V} {as : List AV} {Q : List Addr}, RpA Y.K H2 m2 (Fz (Rv R P) (A2 ++ B2 ++ P2)) vs us as Q → RpA Y.K H2 m2 (Fz R (A2 ++ B2 ++ (P ++ P2))) vs us as Q := by
    intro us as Q r
    induction r with
    | nil => exact .nil
    | dat r t ih => exact .dat (r.fz Fz_rv) ih
    | slot h t ih => exact .slot h ih
  exact h2 (y :: z) H2 m2 A2 B2 (P ++ P2) (x1.seq x2) ⟨.dat r1' (rf ra), by simp [shp, hs], fun e => by
    simp only [Bool.or_eq_false_iff] at e
    simpa [slotsOf] using hb e.2⟩
theorem sc_cons (ha : SE Y X ba fa ea) (hb : SC Y X bb sh ga es) (hs : ∀ v p, ea ≠ .Starred v p) : SC Y X (ba || bb) (none :: sh) (consC bb fa ga) (ea :: es) := PAw (pa_cons ha hb (star_no hs es X.env)) fun vs H Q h => scc_conv h
theorem scs_conv {i : Nat} {vs : L2.St} {H : Hp} {Q : List V → Hp → Prop} (h : tG Y true (relA Y vs true (some i :: sh)) (slotC i ga) vs H Q) : tCons (fun σ H Q => ∃ x, σ[i]? = some (some x) ∧ Q x H) (tA Y true sh ga) vs H Q := by
  obtain ⟨s, R, m, A, B, l, n, h⟩ := h
  unfold slotC at h
  split at h
  · rename_i x hx
    obtain ⟨u, P, e1, r, _⟩ := l.sl.get hx
    refine ⟨u, e1, s, R, m, A, B, l, n, h.split id fun q hq h2 z H2 m2 A2 B2 P2 x2 r2 => ?_⟩
    obtain ⟨ra, hs, hb⟩ := r2
    exact h2 (u :: z) H2 m2 A2 B2 P2 x2 ⟨.slot e1 ra, by simp [shp, hs], fun e => nomatch e⟩
  · exact h.elim
theorem sc_slot {i : Nat} {y : Str} {py : Pos} (hN : X.N[i]? = some y) (hv : Vis X.env.scope y) (hd : (y == ("__debug__" : Str)) = false) (hcd : (y == ("__classdict__" : Str)) = false) (hb : SC Y X true sh ga es) : SC Y X true (some i :: sh) (slotC i ga) (.Name y py :: es) :=
  PAw (pa_cons (pe_var hN hv hd hcd) hb (star_no (e := .Name y py) (fun v p z => by cases z) es X.env)) fun vs H Q h => scs_conv h

theorem se_call {cf : CF} {g np : Nat} {io : List Nat} (hio : ioOf 0 sh = io) (hnp : sh.length = np) (F : FnG X.prog X.w X.K X.mg X.base k f fd ps (spF Y.K Y.XR cf g np io)) (hr : Room k X.A) (hgd : X.A.guards = some []) (tk : Takes X Y.W) (hg : Gl X x) (hm : X.mg x = some (.ref f)) (hk : PySem.W.keepIn X.K (.ref f) = true) (hb : Binds X.K fd ps [])
    (ha : SC Y X b sh ga (ea :: es)) (hdb : (x == ("__debug__" : Str)) = false) (he : starEach (ea :: es) X.env = (false, eval ea X.env) :: starEach es X.env) (hpl : (backTo pos (starEach es X.env)).any (·.1) = false) : SE Y X b (callEE cf g ga) (.Call (.Name x p) (ea :: es) [] pos) := by
  refine ⟨fun pins s σ H Q I h => ?_⟩
  refine wpAny_Call_Name_kw (ld_glob I hg hm ?_ hdb)
  refine PySem.W.callWith_K (h₀ := X.base) I.ok.mod.kin hk (thn (ha.run pos pins s σ H _ I (call_conv hio hnp h)) fun us s1 ⟨vs, H1, I1, r, q⟩ => ⟨I1.kIn, ?_⟩) he hpl
  exact call_fnG F hr hgd tk hb I1 r q
theorem se_call0 {cf : CF} {g np : Nat} {io : List Nat} (hio : ioOf 0 [] = io) (hnp : ([] : List (Option Nat)).length = np) (F : FnG X.prog X.w X.K X.mg X.base k f fd ps (spF Y.K Y.XR cf g np io)) (hr : Room k X.A) (hgd : X.A.guards = some []) (tk : Takes X Y.W) (hg : Gl X x) (hm : X.mg x = some (.ref f)) (hk : PySem.W.keepIn X.K (.ref f) = true) (hb : Binds X.K fd ps [])
    (hdb : (x == ("__debug__" : Str)) = false) : SE Y X b (callEE cf g (fun s => .ok ([], s))) (.Call (.Name x p) [] [] pos) := by
  refine ⟨fun pins s σ H Q I h => ?_⟩
  refine wpAny_Call_Name_kw (ld_glob I hg hm ?_ hdb)
  have q := call_conv (sh := []) hio hnp h
  obtain ⟨s0, R, m, A, B, l, n, q⟩ := q
  exact PySem.W.callWith_K0 I.kIn hk (call_fnG (us := []) F hr hgd tk hb I .nil (q [] H m A B [] (Stp.refl l) ⟨.nil, rfl, fun _ => rfl⟩))
end
end MP
/-! MP.14: statements -/
namespace MP
open PySem PySem.Spec PyProof.Rows L2

structure StT (K : PySem.W.Frag) (H : Hp) (R : Addr → Prop) (vs : L2.St) (A B : List Addr) (io : List Nat) (H' : Hp) (vs' : L2.St) (s' : LS) (m' A' B' Ov : List Addr) : Prop where
  li : LI K H' (Rv R Ov) vs' s' m' A' B'
  nd : Ov.Nodup
  nr : ∀ a ∈ Ov, ¬ R a
  pr : Pres (A ++ B) H H'
  dm : ∀ a, H a ≠ none → H' a ≠ none
  gr : ∀ a, a ∈ A' ++ B' ∨ a ∈ Ov → a ∈ A ++ B ∨ H a = none
  nl : nlL s' = true
  io : ∀ i ∈ io, vs'[i]? = vs[i]?

def PostS (Y : Yx) (H : Hp) (R : Addr → Prop) (vs : L2.St) (A B : List Addr) (io : List Nat) (r : SR) (D : Ends) : Prop :=
  match r with
  | .nxt s' => ∀ H' vs' m' A' B', StT Y.K H R vs A B io H' vs' s' m' A' B' [] → D.nx vs' H'
  | .brk s' => ∀ H' vs' m' A' B', StT Y.K H R vs A B io H' vs' s' m' A' B' [] → D.bk vs' H'
  | .cnt s' => ∀ H' vs' m' A' B', StT Y.K H R vs A B io H' vs' s' m' A' B' [] → D.ct vs' H'
  | .ret x s' => ∀ y H' vs' m' A' B' Ov, StT Y.K H R vs A B io H' vs' s' m' A' B' Ov → Rp Y.K H' m' (Fz R (A' ++ B' ++ Ov)) y x Ov → D.rt y H'
  | .exc c ps s' => ∀ cl d H' vs' m' A' B', StT Y.K H R vs A B io H' vs' s' m' A' B' [] → Y.XR (Fz R (A' ++ B')) H' c ps cl d → Y.W cl d vs' H'
  | .stuck => False
def tS (Y : Yx) (io : List Nat) (f : LS → SR) : TS := fun D vs H => ∃ s R m A B, LI Y.K H R vs s m A B ∧ nlL s = true ∧ PostS Y H R vs A B io (f s) D
abbrev SS (Y : Yx) (X : Cx) (io : List Nat) (f : LS → SR) (st : Stmt) : Prop := PS X st (tS Y io f)
abbrev SB (Y : Yx) (X : Cx) (io : List Nat) (f : LS → SR) (st : List Stmt) : Prop := PSs X st (tS Y io f)
theorem PSw {X : Cx} {e : Stmt} {t t' : TS} (h : PS X e t) (w : ∀ D σ H, t' D σ H → t D σ H) : PS X e t' := ⟨fun pins s σ H D I q => h.run pins s σ H D I (w D σ H q)⟩
theorem PSsw {X : Cx} {e : List Stmt} {t t' : TS} (h : PSs X e t) (w : ∀ D σ H, t' D σ H → t D σ H) : PSs X e t' := ⟨fun pins s σ H D I q => h.run pins s σ H D I (w D σ H q)⟩

section
variable {Y : Yx} {H H' H1 H2 : Hp} {R : Addr → Prop} {vs vs1 vs2 : L2.St} {s s' s1 s2 : LS} {m m' m1 m2 : List Addr} {A B A' B' A1 B1 A2 B2 P : List Addr} {b b1 b2 : Bool} {io : List Nat}
theorem StT.refl {K : PySem.W.Frag} (l : LI K H R vs s m A B) (n : nlL s = true) : StT K H R vs A B io H vs s m A B [] :=
  ⟨by rw [Rv_nil]; exact l, List.nodup_nil, (fun _ z => nomatch z), Pres.refl, fun _ e => e, fun a z => .inl (z.elim id fun q => nomatch q), n, fun _ _ => rfl⟩
theorem StT.seq {K : PySem.W.Frag} (x : StT K H R vs A B io H1 vs1 s1 m1 A1 B1 []) (y : StT K H1 R vs1 A1 B1 io H2 vs2 s2 m2 A2 B2 P) : StT K H R vs A B io H2 vs2 s2 m2 A2 B2 P where
  li := y.li
  nd := y.nd
  nr := y.nr
  pr := x.pr.trans y.pr fun a z => x.gr a (.inl z)
  dm := fun a n => y.dm a (x.dm a n)
  gr := fun a z => by
    rcases y.gr a z with q | q
    · exact x.gr a (.inl q)
    · cases e : H a with
      | none => exact .inr rfl
      | some o =>
        by_cases w : a ∈ A ++ B
        · exact .inl w
        · rw [x.pr a o e w] at q; cases q
  nl := y.nl
  io := fun i h => (y.io i h).trans (x.io i h)
/-- an expression's step -/
theorem Stp.toT {K : PySem.W.Frag} (x : Stp K H R vs s m A B b H1 s1 m1 A1 B1 P) (n : nlL s = true) : StT K H R vs A B io H1 vs s1 m1 A1 B1 P := ⟨x.li, x.nd, x.nr, x.pr, x.dm, x.gr, x.nl n, fun _ _ => rfl⟩
theorem PostS.next {r : SR} {D : Ends} (h : PostS Y H R vs A B io r D) (x : StT Y.K H R vs A B io H1 vs1 s1 m1 A1 B1 []) : PostS Y H1 R vs1 A1 B1 io r D := by
  cases r with
  | nxt s' => exact fun H' vs' m' A' B' y => h H' vs' m' A' B' (x.seq y)
  | brk s' => exact fun H' vs' m' A' B' y => h H' vs' m' A' B' (x.seq y)
  | cnt s' => exact fun H' vs' m' A' B' y => h H' vs' m' A' B' (x.seq y)
  | ret v s' => exact fun y H' vs' m' A' B' Ov z q => h y H' vs' m' A' B' Ov (x.seq z) q
  | exc c ps s' => exact fun cl d H' vs' m' A' B' y q => h cl d H' vs' m' A' B' (x.seq y) q
  | stuck => exact h
theorem PostS.li {r : SR} {D : Ends} (h : PostS Y H1 R vs1 A1 B1 io r D) (x : StT Y.K H R vs A B io H1 vs1 s1 m1 A1 B1 []) {f : LS → SR} (e : f s1 = r) : tS Y io f D vs1 H1 :=
  ⟨s1, R, m1, A1, B1, by have := x.li; rw [Rv_nil] at this; exact this, x.nl, by rw [e]; exact h⟩
/-- an expression within a statement -/
theorem PostS.expr {α β : Type} {rel : Rel α β} {r : Res (α × LS)} {g : α × LS → SR} {D : Ends} {Q : β → Hp → Prop} (n : nlL s = true) (h : PostS Y H R vs A B io (r.toS g) D)
    (k : ∀ p, r = .ok p → PostS Y H R vs A B io (g p) D → ∀ y H1 m1 A1 B1 P, Stp Y.K H R vs s m A B b H1 p.2 m1 A1 B1 P → rel H1 m1 (Fz R (A1 ++ B1 ++ P)) y p.1 P → Q y H1) : Post Y H R vs s m A B b rel r Q := by
  cases r with
  | ok p => exact fun y H1 m1 A1 B1 P x q => k p rfl h y H1 m1 A1 B1 P x q
  | exc c ps s' => exact fun cl d H' m' A' B' x q => h cl d H' vs m' A' B' (x.toT n) q
  | stuck => exact h
end

section
variable {Y : Yx} {X : Cx} {st : Stmt} {rest : List Stmt} {ea : Expr} {fa : EvF} {ga gb : LS → SR} {b : Bool} {io : List Nat} {pos : Pos}
theorem sb_nil : SB Y X io (fun s => .nxt s) [] := PSsw pss_nil fun D vs H h => by
  obtain ⟨s, R, m, A, B, l, n, h⟩ := h
  exact h H vs m A B (.refl l n)
theorem seq_conv {D : Ends} {vs : L2.St} {H : Hp} (h : tS Y io (fun s => (ga s).bind gb) D vs H) : tSeq (tS Y io ga) (tS Y io gb) D vs H := by
  obtain ⟨s, R, m, A, B, l, n, h⟩ := h
  replace h : PostS Y H R vs A B io ((ga s).bind gb) D := h
  refine ⟨s, R, m, A, B, l, n, ?_⟩
  revert h
  cases e : ga s with
  | nxt s' => exact fun h H' vs' m' A' B' x => (PostS.next h x).li x rfl
  | brk s' => exact id
  | cnt s' => exact id
  | ret v s' => exact id
  | exc c ps s' => exact id
  | stuck => exact id
theorem sb_cons (h1 : SS Y X io ga st) (h2 : SB Y X io gb rest) : SB Y X io (fun s => (ga s).bind gb) (st :: rest) := PSsw (pss_cons h1 h2) fun D vs H h => seq_conv h
theorem sb_one (h1 : SS Y X io ga st) : SB Y X io ga [st] := pss_one h1
theorem ss_pass : SS Y X io (fun s => .nxt s) (.Pass pos) := PSw ps_pass fun D vs H h => by
  obtain ⟨s, R, m, A, B, l, n, h⟩ := h
  exact h H vs m A B (.refl l n)
theorem ss_brk : SS Y X io (fun s => .brk s) (.Break pos) := PSw ps_break fun D vs H h => by
  obtain ⟨s, R, m, A, B, l, n, h⟩ := h
  exact h H vs m A B (.refl l n)
theorem ss_cnt : SS Y X io (fun s => .cnt s) (.Continue pos) := PSw ps_continue fun D vs H h => by
  obtain ⟨s, R, m, A, B, l, n, h⟩ := h
  exact h H vs m A B (.refl l n)
theorem ss_doc {x j pos pos'} : SS Y X io (fun s => .nxt s) (.Expr (.Constant (.str x) j pos) pos') := PSw ps_doc fun D vs H h => by
  obtain ⟨s, R, m, A, B, l, n, h⟩ := h
  exact h H vs m A B (.refl l n)
theorem ss_expr (he : SE Y X b fa ea) (hs : swapsWith ea none pos.line X.env = pure false) : SS Y X io (fun s => (fa s).toS fun p => .nxt p.2) (.Expr ea pos) := PSw (ps_expr he hs) fun D vs H h => by
  obtain ⟨s, R, m, A, B, l, n, h⟩ := h
  exact ⟨s, R, m, A, B, l, fun _ => n, h.expr n fun p hp h1 y H1 m1 A1 B1 P x1 r1 => h1 H1 vs m1 A1 B1 (x1.drop.toT n)⟩
theorem ss_retE (he : SE Y X b fa ea) : SS Y X io (fun s => (fa s).toS fun p => .ret p.1 p.2) (.Return (some ea) pos) := PSw (ps_ret he) fun D vs H h => by
  obtain ⟨s, R, m, A, B, l, n, h⟩ := h
  exact ⟨s, R, m, A, B, l, fun _ => n, h.expr n fun p hp h1 y H1 m1 A1 B1 P x1 r1 => h1 y H1 vs m1 A1 B1 P (x1.toT n) r1⟩
theorem ss_retN : SS Y X io (fun s => .ret (.imm .none) s) (.Return none pos) := PSw ps_retN fun D vs H h => by
  obtain ⟨s, R, m, A, B, l, n, h⟩ := h
  exact h .non H vs m A B [] (.refl l n) (.imm (as := []) .non fun _ z => nomatch z)
theorem if_conv {D : Ends} {vs : L2.St} {H : Hp} (h : tS Y io (fun s => (tstR (fa s)).toS fun p => if p.1 then ga p.2 else gb p.2) D vs H) : tIfS (tG Y b relB fun s => tstR (fa s)) (tS Y io ga) (tS Y io gb) D vs H := by
  obtain ⟨s, R, m, A, B, l, n, h⟩ := h
  refine ⟨s, R, m, A, B, l, fun _ => n, h.expr n fun p hp h1 y H1 m1 A1 B1 P x1 r1 => ?_⟩
  obtain ⟨rfl, rfl⟩ := r1
  have t := x1.toT (io := io) n
  have h2 := PostS.next h1 t
  revert h2
  cases p.1 with
  | true => exact fun h2 => h2.li t rfl
  | false => exact fun h2 => h2.li t rfl
theorem ss_if {c : Expr} {p q : List Stmt} (hc : ST Y X b (fun s => tstR (fa s)) c) (ha : SB Y X io ga p) (hb : SB Y X io gb q) : SS Y X io (fun s => (tstR (fa s)).toS fun p => if p.1 then ga p.2 else gb p.2) (.If c p q pos) :=
  PSw (ps_if hc ha hb) fun D vs H h => if_conv h

/-! ### targets -/
mutual
def tgT (K : PySem.W.Frag) : Tg → TG
  | .nm i => gName i
  | .tp l => gTup K (tgN l) (tgL K l)
  | _ => fun _ _ _ _ => False
def tgL (K : PySem.W.Frag) : Tg → TGs
  | .nil => gNil
  | .cons a b => gCons (tgT K a) (tgL K b)
  | _ => fun _ _ _ _ => False
def tgN : Tg → Nat
  | .nil => 0
  | .cons _ b => tgN b + 1
  | _ => 0
end
/-- the slots of a target -/
def tgS : Tg → List Nat
  | .nm i => [i]
  | .nil => []
  | .cons a b => tgS a ++ tgS b
  | .tp l => tgS l
def Sub (A C : List Addr) : Prop := ∃ D : List Addr, C.Perm (D ++ A)
theorem Sub.refl (A : List Addr) : Sub A A := ⟨[], List.Perm.refl _⟩
theorem Sub.trans {A B C : List Addr} (h : Sub A B) (g : Sub B C) : Sub A C := by
  obtain ⟨D, h⟩ := h
  obtain ⟨E, g⟩ := g
  exact ⟨E ++ D, by rw [List.append_assoc]; exact g.trans (List.Perm.append_left E h)⟩
theorem Sub.mem {A C : List Addr} (h : Sub A C) : ∀ {a}, a ∈ A → a ∈ C := fun z => by
  obtain ⟨D, h⟩ := h
  exact h.mem_iff.mpr (List.mem_append_right _ z)
theorem Sub.nodup {A C : List Addr} (h : Sub A C) (n : C.Nodup) : A.Nodup := by
  obtain ⟨D, h⟩ := h
  exact (List.nodup_append.mp (h.nodup_iff.mp n)).2.1
theorem Sub.cons {A C : List Addr} (D : List Addr) (h : Sub A C) : Sub A (D ++ C) := by
  obtain ⟨E, h⟩ := h
  exact ⟨D ++ E, by rw [List.append_assoc]; exact List.Perm.append_left D h⟩
theorem RpS.set1 {K : PySem.W.Frag} {H : Hp} {m : List Addr} {F : Addr → Prop} {vs : L2.St} {sl : List (Option LV)} {A : List Addr} (r : RpS K H m F vs sl A) : ∀ {i : Nat} {v : V} {x : LV} {O : List Addr}, i < sl.length → Rp K H m F v x O → ∃ A', RpS K H m F (vs.set i (some v)) (sl.set i (some x)) A' ∧ Sub A' (O ++ A) := by
  induction r with
  | nil => intro i v x O e; simp at e
  | @no u us xs P r ih =>
    intro i v x O e q
    cases i with
    | zero => exact ⟨O ++ P, .so q r, .refl _⟩
    | succ i =>
      obtain ⟨A', h1, h2⟩ := ih (i := i) (v := v) (x := x) (by simpa using e) q
      exact ⟨A', .no h1, h2⟩
  | @so u us y xs O' P h r ih =>
    intro i v x O e q
    cases i with
    | zero => exact ⟨O ++ P, .so q r, O', by
        rw [← List.append_assoc, ← List.append_assoc]
        exact List.Perm.append_right P List.perm_append_comm⟩
    | succ i =>
      obtain ⟨A', h1, D, h2⟩ := ih (i := i) (v := v) (x := x) (by simpa using e) q
      refine ⟨O' ++ A', .so h h1, D, ?_⟩
      have e1 : (O ++ (O' ++ P)).Perm (O' ++ (O ++ P)) := by
        rw [← List.append_assoc, ← List.append_assoc]
        exact List.Perm.append_right P List.perm_append_comm
      have e2 : (O' ++ (D ++ A')).Perm (D ++ (O' ++ A')) := by
        rw [← List.append_assoc, ← List.append_assoc]
        exact List.Perm.append_right A' List.perm_append_comm
      exact e1.trans ((List.Perm.append_left O' h2).trans e2)
theorem parts_rp {K : PySem.W.Frag} {H : Hp} {m : List Addr} {F : Addr → Prop} {v : V} {x : LV} {O : List Addr} {xs : List LV} (r : Rp K H m F v x O) (e : x.parts = some xs) : ∃ a us, v = .ref a ∧ SqT K H a us ∧ Rps K H m F us xs O := by
  have conv : ∀ {ds : List PyData} {us : List V} {as : List Addr}, RDs K H us ds as → (∀ a ∈ as, F a) → Rps K H m F us (ds.map LV.imm) [] := by
    intro ds
    induction ds with
    | nil => intro us as r f; cases r; exact .nil
    | cons d ds ih =>
      intro us as r f
      cases r with
      | cons r t => exact Rps.cons (.imm r fun a z => f a (List.mem_append_left _ z)) (ih t fun a z => f a (List.mem_append_right _ z))
  have convL : ∀ {ds : List PyData} {us : List V} {as : List Addr}, RDs K H us ds as → Rps K H m F us (ds.map mkLent) [] := by
    intro ds
    induction ds with
    | nil => intro us as r; cases r; exact .nil
    | cons d ds ih =>
      intro us as r
      cases r with
      | cons r t =>
        refine Rps.cons (O := []) ?_ (ih t)
        unfold mkLent
        split
        · rename_i hi
          exact .imm r fun a z => by rw [r.im hi] at z; cases z
        · exact .lent r
  unfold LV.parts at e
  split at e
  · cases e
    cases r with
    | imm r f => cases r with
      | tup h r => exact ⟨_, _, rfl, h.sqt, conv r f⟩
  · cases e
    cases r with
    | lent r => cases r with
      | tup h r => exact ⟨_, _, rfl, h.sqt, convL r⟩
  · cases e
    cases r with
    | tup h r => exact ⟨_, _, rfl, h.sqt, r⟩
  · cases e
theorem set_get {vs : L2.St} {i j : Nat} {v : Option V} (h : i ≠ j) : (vs.set i v)[j]? = vs[j]? := List.getElem?_set_ne h
theorem bindL_len : ∀ {t : Tg} {xs : List LV} {sl sl' : List (Option LV)}, bindL t xs sl = some sl' → xs.length = tgN t
  | .nil, [], _, _, _ => by simp [tgN]
  | .nil, _ :: _, _, _, e => by simp [bindL] at e
  | .cons a b, [], _, _, e => by simp [bindL] at e
  | .cons a b, x :: xs, sl, sl', e => by
    unfold bindL at e
    split at e
    · simp [tgN, bindL_len e]
    · cases e
  | .nm _, xs, _, _, e => by cases xs <;> simp [bindL] at e
  | .tp _, xs, _, _, e => by cases xs <;> simp [bindL] at e
mutual
theorem bindT_rp {K : PySem.W.Frag} {H : Hp} {m : List Addr} {F : Addr → Prop} {keep : List Nat} : ∀ {t : Tg} {x : LV} {v : V} {O : List Addr} {vs : L2.St} {sl sl' : List (Option LV)} {A : List Addr} {Q : L2.St → Hp → Prop}, Rp K H m F v x O → RpS K H m F vs sl A → bindT t x sl = some sl' → (∀ i ∈ tgS t, i ∉ keep) →
    (∀ vs' A', RpS K H m F vs' sl' A' → Sub A' (O ++ A) → (∀ i ∈ keep, vs'[i]? = vs[i]?) → Q vs' H) → tgT K t v vs H Q
  | .nm i, x, v, O, vs, sl, sl', A, Q, r, rs, e, hk, k => by
    unfold bindT at e
    split at e
    · rename_i hl
      cases e
      obtain ⟨A', h1, h2⟩ := rs.set1 hl r
      unfold tgT
      exact k _ A' h1 h2 fun j hj => set_get fun e => hk i (by simp [tgS]) (by rw [e]; exact hj)
    · cases e
  | .tp t, x, v, O, vs, sl, sl', A, Q, r, rs, e, hk, k => by
    unfold bindT at e
    split at e
    · rename_i xs ex
      obtain ⟨a, us, rfl, hq, r'⟩ := parts_rp r ex
      unfold tgT
      refine ⟨a, us, rfl, hq, by rw [r'.length]; exact bindL_len e, ?_⟩
      exact bindL_rp r' rs e hk k
    · cases e
  | .nil, _, _, _, _, _, _, _, _, _, _, e, _, _ => by unfold bindT at e; cases e
  | .cons _ _, _, _, _, _, _, _, _, _, _, _, e, _, _ => by unfold bindT at e; cases e
theorem bindL_rp {K : PySem.W.Frag} {H : Hp} {m : List Addr} {F : Addr → Prop} {keep : List Nat} : ∀ {t : Tg} {xs : List LV} {us : List V} {O : List Addr} {vs : L2.St} {sl sl' : List (Option LV)} {A : List Addr} {Q : L2.St → Hp → Prop}, Rps K H m F us xs O → RpS K H m F vs sl A → bindL t xs sl = some sl' → (∀ i ∈ tgS t, i ∉ keep) →
    (∀ vs' A', RpS K H m F vs' sl' A' → Sub A' (O ++ A) → (∀ i ∈ keep, vs'[i]? = vs[i]?) → Q vs' H) → tgL K t us vs H Q
  | .nil, _, _, _, vs, sl, sl', A, Q, .nil, rs, e, hk, k => by
    unfold bindL at e
    cases e
    unfold tgL
    exact ⟨rfl, k vs A rs (Sub.refl _) fun _ _ => rfl⟩
  | .nil, _, _, _, _, _, _, _, _, .cons _ _, _, e, _, _ => by unfold bindL at e; cases e
  | .cons _ _, _, _, _, _, _, _, _, _, .nil, _, e, _, _ => by unfold bindL at e; cases e
  | .cons a b, _, _, _, vs, sl, sl', A, Q, @Rps.cons _ _ _ _ v us x xs O P r t, rs, e, hk, k => by
    unfold bindL at e
    split at e
    · rename_i sl1 e1
      unfold tgL
      refine ⟨v, us, rfl, bindT_rp r rs e1 (fun i hi => hk i (by simp [tgS, hi])) fun vs1 A1 r1 s1 k1 => ?_⟩
      refine bindL_rp t r1 e (fun i hi => hk i (by simp [tgS, hi])) fun vs2 A2 r2 s2 k2 => k vs2 A2 r2 ?_ fun i hi => (k2 i hi).trans (k1 i hi)
      refine s2.trans ?_
      obtain ⟨D, s1⟩ := s1
      refine ⟨D, ?_⟩
      have e1 : (O ++ P ++ A).Perm (P ++ (O ++ A)) := by
        rw [← List.append_assoc]
        exact List.Perm.append_right A List.perm_append_comm
      have e2 : (P ++ (D ++ A1)).Perm (D ++ (P ++ A1)) := by
        rw [← List.append_assoc, ← List.append_assoc]
        exact List.Perm.append_right A1 List.perm_append_comm
      exact e1.trans ((List.Perm.append_left P s1).trans e2)
    · cases e
  | .nm _, _, _, _, _, _, _, _, _, .nil, _, e, _, _ => by unfold bindL at e; cases e
  | .nm _, _, _, _, _, _, _, _, _, .cons _ _, _, e, _, _ => by unfold bindL at e; cases e
  | .tp _, _, _, _, _, _, _, _, _, .nil, _, e, _, _ => by unfold bindL at e; cases e
  | .tp _, _, _, _, _, _, _, _, _, .cons _ _, _, e, _, _ => by unfold bindL at e; cases e
end
theorem parts_nl {x : LV} {xs : List LV} (e : x.parts = some xs) (n : x.nl = true) : LV.nls xs = true := by
  have conv : ∀ ds : List PyData, LV.nls (ds.map LV.imm) = true := fun ds => by induction ds <;> simp_all [LV.nls, LV.nl]
  unfold LV.parts at e
  split at e
  · cases e; exact conv _
  · simp [LV.nl] at n
  · cases e; simpa [LV.nl] using n
  · cases e
mutual
theorem bindT_nl : ∀ {t : Tg} {x : LV} {sl sl' : List (Option LV)}, bindT t x sl = some sl' → x.nl = true → nlS sl = true → nlS sl' = true
  | .nm i, x, sl, sl', e, n, h => by
    unfold bindT at e
    split at e
    · cases e; exact nlS_set h i _ fun y e => by cases e; exact n
    · cases e
  | .tp t, x, sl, sl', e, n, h => by
    unfold bindT at e
    split at e
    · rename_i xs ex; exact bindL_nl e (parts_nl ex n) h
    · cases e
  | .nil, _, _, _, e, _, _ => by unfold bindT at e; cases e
  | .cons _ _, _, _, _, e, _, _ => by unfold bindT at e; cases e
theorem bindL_nl : ∀ {t : Tg} {xs : List LV} {sl sl' : List (Option LV)}, bindL t xs sl = some sl' → LV.nls xs = true → nlS sl = true → nlS sl' = true
  | .nil, [], _, _, e, _, h => by unfold bindL at e; cases e; exact h
  | .nil, _ :: _, _, _, e, _, _ => by unfold bindL at e; cases e
  | .cons _ _, [], _, _, e, _, _ => by unfold bindL at e; cases e
  | .cons a b, x :: xs, sl, sl', e, n, h => by
    unfold bindL at e
    simp only [LV.nls, Bool.and_eq_true] at n
    split at e
    · rename_i sl1 e1; exact bindL_nl e n.2 (bindT_nl e1 n.1 h)
    · cases e
  | .nm _, [], _, _, e, _, _ => by unfold bindL at e; cases e
  | .nm _, _ :: _, _, _, e, _, _ => by unfold bindL at e; cases e
  | .tp _, [], _, _, e, _, _ => by unfold bindL at e; cases e
  | .tp _, _ :: _, _, _, e, _, _ => by unfold bindL at e; cases e
end
end
end MP
/-! MP.15: assignments, what is handed back, loops -/
namespace MP
open PySem PySem.Spec PyProof.Rows L2

section
variable {Y : Yx} {X : Cx} {st : Stmt} {rest : List Stmt} {ea : Expr} {es : List Expr} {fa : EvF} {fA : LS → Res (List LV × LS)} {ga gb : LS → SR} {b : Bool} {io : List Nat} {pos : Pos}

theorem tG.up {α β : Type} {rel : Rel α β} {f : LS → Res (α × LS)} {vs : L2.St} {H : Hp} {Q : β → Hp → Prop} (h : tG Y true rel f vs H Q) : tG Y b rel f vs H Q := by
  obtain ⟨s, R, m, A, B, l, n, h⟩ := h
  refine ⟨s, R, m, A, B, l, fun _ => n rfl, ?_⟩
  revert h
  cases f s with
  | ok p => exact fun h y H' m' A' B' Ov x r => h y H' m' A' B' Ov (x.any fun z => nomatch z) r
  | exc c ps s' => exact fun h cl d H' m' A' B' x q => h cl d H' m' A' B' (x.any fun z => nomatch z) q
  | stuck => exact id
theorem SE_up (h : SE Y X b fa ea) : SE Y X true fa ea := PEw h fun vs H Q h => tG.up h
theorem SA_up (h : SA Y X b fA es) : SA Y X true fA es := PAw h fun vs H Q h => tG.up h

theorem se_take {i : Nat} {x : Str} (hN : X.N[i]? = some x) (hv : Vis X.env.scope x) (hd : (x == ("__debug__" : Str)) = false) (hcd : (x == ("__classdict__" : Str)) = false) : SE Y X true (takeE i) (.Name x pos) := by
  refine PEw (pe_var hN hv hd hcd) fun vs H Q h => ?_
  obtain ⟨s, R, m, A, B, l, n, h⟩ := h
  unfold takeE takeV at h
  split at h
  · rename_i p hp
    split at hp
    · rename_i x hx
      cases hp
      obtain ⟨v, O, A', e1, r, rs, pm⟩ := l.sl.out hx
      refine ⟨v, e1, ?_⟩
      have ndA := (List.nodup_append.mp l.nd)
      have ndO : (O ++ A').Nodup := pm.nodup_iff.mp ndA.1
      have inA : ∀ {a}, a ∈ O ++ A' → a ∈ A := fun z => pm.mem_iff.mpr z
      have F1 : ∀ a, Fz R (A ++ B) a → Fz (Rv R O) (A' ++ B) a := fun a f => ⟨fun w => f.1 ((List.mem_append.mp w).elim (fun w => List.mem_append_left _ (inA (List.mem_append_right _ w))) (List.mem_append_right _)), fun w => w.elim f.2 fun w => f.1 (List.mem_append_left _ (inA (List.mem_append_left _ w)))⟩
      have F2 : ∀ a, Fz R (A ++ B) a → Fz R (A' ++ B ++ O) a := fun a f => ⟨fun w => (List.mem_append.mp w).elim (F1 a f).1 fun w => f.1 (List.mem_append_left _ (inA (List.mem_append_left _ w))), f.2⟩
      have exO : ∀ a ∈ O, H a ≠ none := fun a z => l.exists a (List.mem_append_left _ (inA (List.mem_append_left _ z)))
      refine h v H m A' B O ⟨⟨?_, ?_, ?_, ?_, ?_⟩, (List.nodup_append.mp ndO).1, ?_, exO, Pres.refl, fun _ e => e, ?_, fun _ _ e => e, ?_, fun z => nomatch z⟩ ?_
      · exact rs.pres (W := []) Pres.refl (fun b z => nomatch z) (fun _ _ e => e) (fun a f _ => F1 a f) (fun _ _ _ z => nomatch z) (fun _ _ z => nomatch z) (.inl rfl)
      · exact l.ob.fz F1
      · exact List.nodup_append.mpr ⟨(List.nodup_append.mp ndO).2.1, ndA.2.1, fun a h1 c h2 e => ndA.2.2 a (inA (List.mem_append_right _ h1)) c h2 e⟩
      · intro a z w
        rcases w with w | w
        · exact l.nr a ((List.mem_append.mp z).elim (fun z => List.mem_append_left _ (inA (List.mem_append_right _ z))) (List.mem_append_right _)) w
        · rcases List.mem_append.mp z with z | z
          · exact (List.nodup_append.mp ndO).2.2 a w a z rfl
          · exact ndA.2.2 a (inA (List.mem_append_left _ w)) a z rfl
      · exact fun a z => z.elim (l.rs a) (exO a)
      · exact fun a z => l.nr a (List.mem_append_left _ (inA (List.mem_append_left _ z)))
      · intro a z
        refine .inl ?_
        rcases z with z | z
        · exact (List.mem_append.mp z).elim (fun z => List.mem_append_left _ (inA (List.mem_append_right _ z))) (List.mem_append_right _)
        · exact List.mem_append_left _ (inA (List.mem_append_left _ z))
      · intro hn
        simp only [nlL, Bool.and_eq_true] at hn ⊢
        exact ⟨nlS_set hn.1 i none (fun y e => nomatch e), hn.2⟩
      · exact r.fz F2
    · cases hp
  · exact h.elim

/-- behind a store -/
theorem Stp.store {H H1 : Hp} {R : Addr → Prop} {vs vs' : L2.St} {s s1 : LS} {m A B m1 A1 B1 P A' : List Addr} {sl' : List (Option LV)} (x : Stp Y.K H R vs s m A B b H1 s1 m1 A1 B1 P) (n : nlL s = true) (r : RpS Y.K H1 m1 (Fz R (A1 ++ B1 ++ P)) vs' sl' A') (hs : Sub A' (P ++ A1)) (hn : nlS sl' = true) (hk : ∀ i ∈ io, vs'[i]? = vs[i]?) :
    StT Y.K H R vs A B io H1 vs' ⟨sl', s1.ob⟩ m1 A' B1 [] := by
  have mm : ∀ {a}, a ∈ A' → a ∈ P ∨ a ∈ A1 := fun z => List.mem_append.mp (hs.mem z)
  have ndA := List.nodup_append.mp x.li.nd
  have F1 : ∀ a, Fz R (A1 ++ B1 ++ P) a → Fz (Rv R []) (A' ++ B1) a := fun a f => ⟨fun w => f.1 (by
    rcases List.mem_append.mp w with w | w
    · exact (mm w).elim (List.mem_append_right _) fun w => List.mem_append_left _ (List.mem_append_left _ w)
    · exact List.mem_append_left _ (List.mem_append_right _ w)), fun w => w.elim f.2 fun w => nomatch w⟩
  refine ⟨⟨?_, ?_, ?_, ?_, ?_⟩, List.nodup_nil, (fun _ z => nomatch z), x.pr, x.dm, ?_, ?_, hk⟩
  · exact r.pres (W := []) Pres.refl (fun b z => nomatch z) (fun _ _ e => e) (fun a f _ => F1 a f) (fun _ _ _ z => nomatch z) (fun _ _ z => nomatch z) (.inl rfl)
  · exact x.obF.fz F1
  · refine List.nodup_append.mpr ⟨hs.nodup (List.nodup_append.mpr ⟨x.nd, ndA.1, fun a h1 c h2 e => x.disj c (List.mem_append_left _ h2) (e ▸ h1)⟩), ndA.2.1, fun a h1 c h2 e => ?_⟩
    subst e
    exact (mm h1).elim (fun w => x.disj a (List.mem_append_right _ h2) w) fun w => ndA.2.2 a w a h2 rfl
  · intro a z w
    have w : R a := w.elim id fun w => nomatch w
    rcases List.mem_append.mp z with z | z
    · exact (mm z).elim (fun z => x.nr a z w) fun z => x.li.nr a (List.mem_append_left _ z) (.inl w)
    · exact x.li.nr a (List.mem_append_right _ z) (.inl w)
  · exact fun a z => z.elim (fun z => x.li.rs a (.inl z)) fun z => nomatch z
  · intro a z
    have z : a ∈ A' ++ B1 := z.elim id fun z => nomatch z
    rcases List.mem_append.mp z with z | z
    · exact (mm z).elim (fun z => x.gr a (.inr z)) fun z => x.gr a (.inl (List.mem_append_left _ z))
    · exact x.gr a (.inl (List.mem_append_right _ z))
  · have h := x.nl n
    simp only [nlL, Bool.and_eq_true] at h ⊢
    exact ⟨hn, h.2⟩
theorem Stp.slF {K : PySem.W.Frag} {H H1 : Hp} {R : Addr → Prop} {vs : L2.St} {s s1 : LS} {m A B m1 A1 B1 P : List Addr} (x : Stp K H R vs s m A B b H1 s1 m1 A1 B1 P) : RpS K H1 m1 (Fz R (A1 ++ B1 ++ P)) vs s1.sl A1 :=
  x.li.sl.pres (W := []) Pres.refl (fun b z => nomatch z) (fun _ _ e => e) (fun a f _ => ⟨fun w => (List.mem_append.mp w).elim f.1 fun w => f.2 (.inr w), fun w => f.2 (.inl w)⟩) (fun _ _ _ z => nomatch z) (fun _ _ z => nomatch z) (.inl rfl)
theorem nlL_sl {s : LS} (h : nlL s = true) : nlS s.sl = true := by
  simp only [nlL, Bool.and_eq_true] at h; exact h.1

theorem asg_conv {t : Tg} {D : Ends} {vs : L2.St} {H : Hp} (ht : ∀ i ∈ tgS t, i ∉ io) (h : tS Y io (fun s => (fa s).toS fun p => if p.1.nl then match bindT t p.1 p.2.sl with
      | some sl' => .nxt ⟨sl', p.2.ob⟩
      | none => .stuck
    else .stuck) D vs H) : tAsg (tG Y b (relV Y) fa) (tgT Y.K t) D vs H := by
  obtain ⟨s, R, m, A, B, l, n, h⟩ := h
  refine ⟨s, R, m, A, B, l, fun _ => n, h.expr n fun p hp h1 y H1 m1 A1 B1 P x1 r1 => ?_⟩
  by_cases hn : p.1.nl = true
  · rw [if_pos hn] at h1
    cases e : bindT t p.1 p.2.sl with
    | none => rw [e] at h1; exact h1.elim
    | some sl' =>
      rw [e] at h1
      exact bindT_rp r1 x1.slF e ht fun vs' A' r' sb hk => h1 H1 vs' m1 A' B1 (x1.store n r' sb (bindT_nl e hn (nlL_sl (x1.nl n))) hk)
  · rw [if_neg hn] at h1; exact h1.elim
theorem ss_asg {t : Tg} {tg : Expr} (he : SE Y X b fa ea) (hg : PG X tg (tgT Y.K t)) (ht : ∀ i ∈ tgS t, i ∉ io) (hs : swapsWithSole [tg] ea pos.line X.env = pure false) (hw : swappedStores [tg] ea X.env = pure none) (h1 : (assignEach [tg] X.env).map (·.2) = [assign tg X.env]) :
    SS Y X io (fun s => (fa s).toS fun p => if p.1.nl then match bindT t p.1 p.2.sl with
      | some sl' => .nxt ⟨sl', p.2.ob⟩
      | none => .stuck
    else .stuck) (.Assign [tg] ea pos) := PSw (ps_asg he hg hs hw h1) fun D vs H h => asg_conv ht h
theorem ss_set {i : Nat} {x : Str} {pos' : Pos} (hN : X.N.Nodup) (hi : X.N[i]? = some x) (hx : Loc X.env.scope x) (he : SE Y X b fa ea) (hio : i ∉ io) (hs : swapsWith ea (some (.Name x pos')) pos.line X.env = pure false) (hf : X.fn x = true ∨ X.env.scope.names.lookup x = some .local) :
    SS Y X io (fun s => (fa s).toS fun p => if p.1.nl then match bindT (.nm i) p.1 p.2.sl with
      | some sl' => .nxt ⟨sl', p.2.ob⟩
      | none => .stuck
    else .stuck) (.Assign [.Name x pos'] ea pos) := PSw (ps_set hN hi hx he hs hf) fun D vs H h => by
  have q := asg_conv (b := b) (t := .nm i) (fun j hj => by simp [tgS] at hj; subst hj; exact hio) h
  unfold tgT at q
  exact q

/-- stores, one after another -/
def setsV : List Nat → List V → L2.St → L2.St
  | i :: is, v :: vs, σ => setsV is vs (σ.set i (some v))
  | _, _, σ => σ
theorem parL_rp {K : PySem.W.Frag} {H : Hp} {m : List Addr} {F : Addr → Prop} {keep : List Nat} : ∀ {is : List Nat} {xs : List LV} {us : List V} {O : List Addr} {vs : L2.St} {sl sl' : List (Option LV)} {A : List Addr}, Rps K H m F us xs O → RpS K H m F vs sl A → parL is xs sl = some sl' → (∀ i ∈ is, i ∉ keep) →
    ∃ A', RpS K H m F (setsV is us vs) sl' A' ∧ Sub A' (O ++ A) ∧ (∀ i ∈ keep, (setsV is us vs)[i]? = vs[i]?) ∧ is.length = us.length
  | [], _, _, _, vs, sl, sl', A, .nil, rs, e, hk => by
    unfold parL at e; cases e
    exact ⟨A, rs, Sub.refl _, fun _ _ => rfl, rfl⟩
  | [], _, _, _, _, _, _, _, .cons _ _, _, e, _ => by unfold parL at e; cases e
  | _ :: _, _, _, _, _, _, _, _, .nil, _, e, _ => by unfold parL at e; cases e
  | i :: is, _, _, _, vs, sl, sl', A, @Rps.cons _ _ _ _ v us x xs O P r t, rs, e, hk => by
    unfold parL at e
    split at e
    · rename_i hl
      obtain ⟨A1, h1, D, h2⟩ := rs.set1 hl r
      obtain ⟨A', q1, q2, q3, q4⟩ := parL_rp (keep := keep) t h1 e fun j hj => hk j (List.mem_cons_of_mem _ hj)
      refine ⟨A', q1, q2.trans ⟨D, ?_⟩, fun j hj => (q3 j hj).trans (set_get fun e => hk i List.mem_cons_self (by rw [e]; exact hj)), by simp [q4]⟩
      have e1 : (O ++ P ++ A).Perm (P ++ (O ++ A)) := by
        rw [← List.append_assoc]
        exact List.Perm.append_right A List.perm_append_comm
      have e2 : (P ++ (D ++ A1)).Perm (D ++ (P ++ A1)) := by
        rw [← List.append_assoc, ← List.append_assoc]
        exact List.Perm.append_right A1 List.perm_append_comm
      exact e1.trans ((List.Perm.append_left P h2).trans e2)
    · cases e
theorem nls_all {xs : List LV} (h : nlAll xs = true) : LV.nls xs = true := by
  induction xs with
  | nil => rfl
  | cons x xs ih =>
    simp only [nlAll, List.all_cons, Bool.and_eq_true] at h
    simp only [LV.nls, Bool.and_eq_true]
    exact ⟨h.1, ih h.2⟩
theorem parL_nl : ∀ {is : List Nat} {xs : List LV} {sl sl' : List (Option LV)}, parL is xs sl = some sl' → nlAll xs = true → nlS sl = true → nlS sl' = true
  | [], [], _, _, e, _, h => by unfold parL at e; cases e; exact h
  | [], _ :: _, _, _, e, _, _ => by unfold parL at e; cases e
  | _ :: _, [], _, _, e, _, _ => by unfold parL at e; cases e
  | i :: is, x :: xs, sl, sl', e, n, h => by
    unfold parL at e
    simp only [nlAll, List.all_cons, Bool.and_eq_true] at n
    split at e
    · exact parL_nl e n.2 (nlS_set h i _ fun y e => by cases e; exact n.1)
    · cases e
theorem par_conv {is : List Nat} {vs : L2.St} {H : Hp} {D : Ends} (hk : ∀ i ∈ is, i ∉ io) (h : tS Y io (fun s => (fA s).toS fun p => if nlAll p.1 then match parL is p.1 p.2.sl with
      | some sl' => .nxt ⟨sl', p.2.ob⟩
      | none => .stuck
    else .stuck) D vs H) : tG Y b (relVs Y) fA vs H (fun us H1 => is.length = us.length ∧ D.nx (setsV is us vs) H1) := by
  obtain ⟨s, R, m, A, B, l, n, h⟩ := h
  refine ⟨s, R, m, A, B, l, fun _ => n, h.expr n fun p hp h1 y H1 m1 A1 B1 P x1 r1 => ?_⟩
  by_cases hn : nlAll p.1 = true
  · rw [if_pos hn] at h1
    cases e : parL is p.1 p.2.sl with
    | none => rw [e] at h1; exact h1.elim
    | some sl' =>
      rw [e] at h1
      obtain ⟨A', q1, q2, q3, q4⟩ := parL_rp (keep := io) r1 x1.slF e hk
      exact ⟨q4, h1 H1 _ m1 A' B1 (x1.store n q1 q2 (parL_nl e hn (nlL_sl (x1.nl n))) q3)⟩
  · rw [if_neg hn] at h1; exact h1.elim
theorem ss_par {i j : Nat} {x y : Str} {a c : Expr} {px py pt : Pos} {kt k2 pt2} (hc : X.calm = true) (hN : X.N.Nodup) (hi : X.N[i]? = some x) (hj : X.N[j]? = some y) (hij : i ≠ j)
    (hx : X.env.scope.names.lookup x = some .local) (hy : X.env.scope.names.lookup y = some .local) (hio : i ∉ io) (hjo : j ∉ io) (ha : SA Y X b fA [a, c])
    (hw : swappedStores [.Tuple [.Name x px, .Name y py] kt pt] (.Tuple [a, c] k2 pt2) X.env = pure (some [x, y]))
    (hs : swapsWithSole [.Tuple [.Name x px, .Name y py] kt pt] (.Tuple [a, c] k2 pt2) pos.line X.env = pure false) :
    SS Y X io (fun s => (fA s).toS fun p => if nlAll p.1 then match parL [i, j] p.1 p.2.sl with
      | some sl' => .nxt ⟨sl', p.2.ob⟩
      | none => .stuck
    else .stuck) (.Assign [.Tuple [.Name x px, .Name y py] kt pt] (.Tuple [a, c] k2 pt2) pos) := PSw (ps_par hc hN hi hj hij hx hy ha hw hs) fun D vs H h => by
  refine (par_conv (fun k hk => ?_) h).mono fun us H1 q => ?_
  · rcases List.mem_cons.mp hk with e | hk
    · rw [e]; exact hio
    · rw [List.mem_singleton.mp hk]; exact hjo
  · obtain ⟨q1, q2⟩ := q
    match us, q1 with
    | [v, w], _ => exact ⟨v, w, rfl, q2⟩
theorem ss_par3 {i j k : Nat} {x y z : Str} {a c d : Expr} {px py pz pt : Pos} {kt k2 pt2} (hc : X.calm = true) (hN : X.N.Nodup) (hi : X.N[i]? = some x) (hj : X.N[j]? = some y) (hl : X.N[k]? = some z) (hij : i ≠ j) (hil : i ≠ k) (hjl : j ≠ k)
    (hx : X.env.scope.names.lookup x = some .local) (hy : X.env.scope.names.lookup y = some .local) (hz : X.env.scope.names.lookup z = some .local) (hio : i ∉ io) (hjo : j ∉ io) (hko : k ∉ io) (ha : SA Y X b fA [a, c, d])
    (hw : swappedStores [.Tuple [.Name x px, .Name y py, .Name z pz] kt pt] (.Tuple [a, c, d] k2 pt2) X.env = pure (some [x, y, z]))
    (hs : swapsWithSole [.Tuple [.Name x px, .Name y py, .Name z pz] kt pt] (.Tuple [a, c, d] k2 pt2) pos.line X.env = pure false) :
    SS Y X io (fun s => (fA s).toS fun p => if nlAll p.1 then match parL [i, j, k] p.1 p.2.sl with
      | some sl' => .nxt ⟨sl', p.2.ob⟩
      | none => .stuck
    else .stuck) (.Assign [.Tuple [.Name x px, .Name y py, .Name z pz] kt pt] (.Tuple [a, c, d] k2 pt2) pos) := PSw (ps_par3 hc hN hi hj hl hij hil hjl hx hy hz ha hw hs) fun D vs H h => by
  refine (par_conv (fun l hk => ?_) h).mono fun us H1 q => ?_
  · rcases List.mem_cons.mp hk with e | hk
    · rw [e]; exact hio
    · rcases List.mem_cons.mp hk with e | hk
      · rw [e]; exact hjo
      · rw [List.mem_singleton.mp hk]; exact hko
  · obtain ⟨q1, q2⟩ := q
    match us, q1 with
    | [u, v, w], _ => exact ⟨u, v, w, rfl, q2⟩

/-! ### while -/
theorem whl_step (c : LS → Res (Bool × LS)) (body : LS → SR) (n : Nat) (s : LS) : whlL c body (n + 1) s = (c s).toS fun p => if p.1 then (match body p.2 with
      | .nxt s' => whlL c body n s'
      | .cnt s' => whlL c body n s'
      | .brk s' => .nxt s'
      | .ret x s' => .ret x s'
      | .exc c ps s' => .exc c ps s'
      | .stuck => .stuck) else .nxt p.2 := by
  rw [whlL]
  cases c s with
  | ok p =>
    obtain ⟨b, s1⟩ := p
    cases b <;> rfl
  | exc c ps s' => rfl
  | stuck => rfl
theorem whl_conv {c : LS → Res (Bool × LS)} {body : LS → SR} {k : Nat} {D : Ends} {vs : L2.St} {H : Hp} (h : tS Y io (whlL c body k) D vs H) : tWhile (tG Y b relB c) (tS Y io body) D vs H := by
  refine ⟨fun m σ H => tS Y io (whlL c body m) D σ H, ⟨k, h⟩, ?_⟩
  rintro m σ H ⟨s, R, mm, A, B, l, n, h⟩
  cases m with
  | zero => exact h.elim
  | succ m =>
    rw [whl_step] at h
    refine ⟨s, R, mm, A, B, l, fun _ => n, h.expr n fun p hp h1 y H1 m1 A1 B1 P x1 r1 => ?_⟩
    obtain ⟨rfl, rfl⟩ := r1
    have t := x1.toT (io := io) n
    have h2 := PostS.next h1 t
    revert h2
    cases p.1 with
    | false => exact fun h2 => h2 H1 σ m1 A1 B1 (by have := t; exact .refl (by have := t.li; rw [Rv_nil] at this; exact this) t.nl)
    | true =>
      simp only [if_true]
      intro h2
      refine ⟨fun σ' H' => tS Y io (whlL c body m) D σ' H', fun σ' H' q => ⟨m, Nat.lt_succ_self m, q⟩, ?_⟩
      refine ⟨p.2, R, m1, A1, B1, by have := t.li; rw [Rv_nil] at this; exact this, t.nl, ?_⟩
      revert h2
      cases body p.2 with
      | nxt s' => exact fun h2 H' vs' m' A' B' x => (PostS.next h2 x).li x rfl
      | cnt s' => exact fun h2 H' vs' m' A' B' x => (PostS.next h2 x).li x rfl
      | brk s' => exact id
      | ret v s' => exact id
      | exc c ps s' => exact id
      | stuck => exact id
theorem ss_whl {c : Expr} {body : List Stmt} (hp : PassesOwn (model X.prog X.w) X.A X.env X.xe) (hc : ST Y X b (fun s => tstR (fa s)) c) (hb : SB Y X io ga body) : SS Y X io (fun s => whlL (fun s => tstR (fa s)) ga fuel s) (.While c body [] pos) :=
  PSw (ps_while hp hc hb) fun D vs H h => whl_conv (k := fuel) h

/-! ### what is walked -/
structure IW (K : PySem.W.Frag) (J : It) (ds : List PyData) (as : List Addr) (G : Hp → Prop) : Prop where
  w : Walk J ds.length G (fun i H x H' => Pres [] H H' ∧ ∃ d bs, ds[i]? = some d ∧ RD K H' x d bs ∧ ∀ a ∈ bs, a ∈ as)
  keep : ∀ {W : List Addr} {H H' : Hp}, G H → Pres W H H' → WM W H → (∀ a ∈ as, a ∉ W) → G H'
  ex : ∀ {H : Hp}, G H → ∀ a ∈ as, H a ≠ none
abbrev relIt (Y : Yx) : Rel (List LV × Bool) It := fun H m F J p O => O = [] ∧ ∃ ds as G, IW Y.K J ds as G ∧ G H ∧ p.1 = ds.map (mkImm p.2) ∧ (p.2 = false → ∀ a ∈ as, F a)
abbrev SI (Y : Yx) (X : Cx) (b : Bool) (f : ItF) (tg e : Expr) : Prop := PI X tg e (tG Y b (relIt Y) f)

theorem for_conv {f : ItF} {t : Tg} {body : LS → SR} {D : Ends} {vs : L2.St} {H : Hp} (ht : ∀ i ∈ tgS t, i ∉ io) (h : tS Y io (fun s => (f s).toS fun p => if p.1.2 then .stuck else forL t body p.1.1 p.2) D vs H) : tFor (tG Y b (relIt Y) f) (tgT Y.K t) (tS Y io body) D vs H := by
  obtain ⟨s, R, m, A, B, l, n, h⟩ := h
  refine ⟨s, R, m, A, B, l, fun _ => n, h.expr n fun p hp h1 J H1 m1 A1 B1 P x1 r1 => ?_⟩
  obtain ⟨rfl, ds, as, G, iw, g, e1, fr⟩ := r1
  by_cases hl : p.1.2 = true
  · rw [if_pos hl] at h1; exact h1.elim
  have hl : p.1.2 = false := by simpa using hl
  rw [if_neg (by rw [hl]; exact Bool.false_ne_true)] at h1
  have fr := fr hl
  have t0 := x1.toT (io := io) n
  have h2 := PostS.next h1 t0
  refine for_it iw.w (fun i σ H' => G H' ∧ ∃ s' m' A' B', LI Y.K H' R σ s' m' A' B' ∧ nlL s' = true ∧ (∀ a ∈ as, Fz R (A' ++ B') a) ∧ PostS Y H' R σ A' B' io (forL t body (p.1.1.drop i) s') D)
    ⟨g, p.2, m1, A1, B1, by have := t0.li; rw [Rv_nil] at this; exact this, t0.nl, fun a z => ⟨fun w => (fr a z).1 (List.mem_append_left _ w), (fr a z).2⟩, h2⟩ (fun i σ H' _ q => q.1) ?_ ?_
  · rintro i x σ H2 H3 hi ⟨g2, s2, m2, A2, B2, l2, n2, f2, h2⟩ ⟨p3, d, bs, e2, rd, hb⟩
    have hx : p.1.1.drop i = mkImm p.1.2 d :: p.1.1.drop (i + 1) := by
      rw [List.drop_eq_getElem_cons (by rw [e1, List.length_map]; exact hi)]
      congr 1
      have : p.1.1[i]? = some (mkImm p.1.2 d) := by rw [e1, List.getElem?_map, e2]; rfl
      exact Option.some.inj (by rw [← this, List.getElem?_eq_getElem])
    rw [hx, forL, hl] at h2
    have hF : ∀ a ∈ bs, Fz R (A2 ++ B2) a := fun a z => f2 a (hb a z)
    have l3 : LI Y.K H3 R σ s2 m2 A2 B2 := l2.pres p3 (fun b z => nomatch z) (fun _ _ z => nomatch z) (fun a _ h _ => ⟨(fun z => nomatch z), h⟩) l2.nr (fun a z => p3.dom a (l2.rs a z)) (.inl rfl)
    have x3 : Stp Y.K H2 R σ s2 m2 A2 B2 false H3 s2 m2 A2 B2 [] := (Stp.refl (b := false) l2).res p3 (fun _ z => nomatch z) List.nodup_nil
    have r3 : Rp Y.K H3 m2 (Fz R (A2 ++ B2 ++ [])) x (mkImm false d) [] := mkImm_rp rd fun _ a z => by rw [List.append_nil]; exact hF a z
    cases eb : bindT t (mkImm false d) s2.sl with
    | none => rw [eb] at h2; exact h2.elim
    | some sl' =>
      rw [eb] at h2
      simp only at h2
      refine bindT_rp r3 x3.slF eb ht fun vs' A' r' sb hk => ?_
      have t3 := x3.store (io := io) n2 r' sb (bindT_nl eb rfl (nlL_sl n2)) hk
      have f3 : ∀ a ∈ as, Fz R (A' ++ B2) a := fun a z => ⟨fun w => (f2 a z).1 (by
        rcases List.mem_append.mp w with w | w
        · exact List.mem_append_left _ (by simpa using sb.mem w)
        · exact List.mem_append_right _ w), (f2 a z).2⟩
      have g3 : G H3 := iw.keep g2 p3 (fun _ z => nomatch z) (fun _ _ z => nomatch z)
      have h2 := fun r (e : body ⟨sl', s2.ob⟩ = r) => PostS.next (by rw [e] at h2; exact h2) t3
      refine ⟨⟨sl', s2.ob⟩, R, m2, A', B2, by have := t3.li; rw [Rv_nil] at this; exact this, t3.nl, ?_⟩
      have go : ∀ {s4 : LS} {H4 : Hp} {σ4 : L2.St} {m4 A4 B4 : List Addr}, StT Y.K H3 R vs' A' B2 io H4 σ4 s4 m4 A4 B4 [] → PostS Y H3 R vs' A' B2 io (forL t body (p.1.1.drop (i + 1)) s4) D →
          G H4 ∧ ∃ s' m' A' B', LI Y.K H4 R σ4 s' m' A' B' ∧ nlL s' = true ∧ (∀ a ∈ as, Fz R (A' ++ B') a) ∧ PostS Y H4 R σ4 A' B' io (forL t body (p.1.1.drop (i + 1)) s') D := fun {s4 H4 σ4 m4 A4 B4} x4 h4 =>
        ⟨iw.keep g3 x4.pr t3.li.own (fun a z => (f3 a z).1), s4, m4, A4, B4, by have := x4.li; rw [Rv_nil] at this; exact this, x4.nl, fun a z => ⟨fun w => (x4.gr a (.inl w)).elim (f3 a z).1 (iw.ex g3 a z), (f2 a z).2⟩, PostS.next h4 x4⟩
      cases ebd : body ⟨sl', s2.ob⟩ with
      | nxt s4 => exact fun H' σ' m' A4 B4 x4 => go x4 (h2 _ ebd)
      | cnt s4 => exact fun H' σ' m' A4 B4 x4 => go x4 (h2 _ ebd)
      | brk s4 => exact h2 _ ebd
      | ret v s4 => exact h2 _ ebd
      | exc c ps s4 => exact h2 _ ebd
      | stuck => exact (h2 _ ebd).elim
  · rintro σ H2 ⟨g2, s2, m2, A2, B2, l2, n2, f2, h2⟩
    rw [List.drop_eq_nil_of_le (by rw [e1, List.length_map]; exact Nat.le_refl _), forL] at h2
    exact h2 H2 σ m2 A2 B2 (.refl l2 n2)
theorem ss_for {f : ItF} {t : Tg} {tg iter : Expr} {body : List Stmt} (hp : PassesOwn (model X.prog X.w) X.A X.env X.xe) (hc : X.calm = true) (hi : SI Y X b f tg iter) (hg : PG X tg (tgT Y.K t)) (ht : ∀ i ∈ tgS t, i ∉ io) (hb : SB Y X io ga body)
    (hs : ∀ x, foldedSetIterable iter X.env x = pure x) : SS Y X io (fun s => (f s).toS fun p => if p.1.2 then .stuck else forL t ga p.1.1 p.2) (.For tg iter body [] pos) := PSw (ps_for hp hc hi hg hb hs) fun D vs H h => for_conv ht h
end
end MP
/-! MP.16: what is walked -/
namespace MP
open PySem PySem.Spec PyProof.Rows L2

theorem PIw {X : Cx} {tg e : Expr} {t t' : TI} (h : PI X tg e t) (w : ∀ σ H Q, t' σ H Q → t σ H Q) : PI X tg e t' := ⟨fun pins s σ H R I q => h.run pins s σ H R I (w _ _ _ q)⟩
def iAny (K : PySem.W.Frag) (tl : TE) : TI := fun σ H R => tl σ H fun x H1 => (∃ a, x = .ref a ∧ (∃ xs, SqL K H1 a xs) ∧ R (Itl K a) H1) ∨ (∃ a, x = .ref a ∧ (∃ xs, SqT K H1 a xs) ∧ R (Itt K a) H1)
theorem pi_any {X : Cx} {tg l : Expr} {tl : TE} (hl : PE X l tl) : PI X tg l (iAny X.K tl) := by
  refine ⟨fun pins s σ H R I h => ?_⟩
  refine thn (hl.run pins s σ H _ I h) fun v s1 ⟨x, H1, I1, r1, q1⟩ => ?_
  rcases q1 with ⟨a, e, ⟨xs, hq⟩, q⟩ | ⟨a, e, ⟨xs, hq⟩, q⟩
  · subst e
    cases r1
    obtain ⟨its, rv, p, hz⟩ := I1.list hq
    refine wpAny_pyIter_list p.isList ?_
    refine ⟨s1.heap.objs.size, [s1.heap.objs.size], _, _, H1, rfl, I1.kept (t' := s1.toks) fun b o e => Heap.get?_push_of_some _ e, turn_list a _, ⟨_, Heap.get?_push_size _ rfl, rfl, rfl⟩, fun b hb => ?_, q⟩
    have e : b = s1.heap.objs.size := by simpa using hb
    subst e
    exact I1.fpOk (Nat.le_refl _) (I1.hok.fresh (Nat.le_refl _))
  · subst e
    cases r1
    obtain ⟨its, rv, p, hz⟩ := I1.tuple hq
    refine wpAny_pyIter_tuple (show s1.heap.IsTuple a its.toArray from p) ?_
    refine ⟨s1.heap.objs.size, [s1.heap.objs.size], _, _, H1, rfl, I1.kept (t' := s1.toks) fun b o e => Heap.get?_push_of_some _ e, turn_tuple a _, ⟨_, Heap.get?_push_size _ rfl, rfl, rfl⟩, fun b hb => ?_, q⟩
    have e : b = s1.heap.objs.size := by simpa using hb
    subst e
    exact I1.fpOk (Nat.le_refl _) (I1.hok.fresh (Nat.le_refl _))

open Sem (wp)
set_option maxHeartbeats 8000000 in
theorem new_enum1 {v : Value} {o : Obj} {HH : Heap → Prop} (B : Begins v o HH) :
    Meets (Builtin.«enumerate.__new__» ⟨[.type "enumerate", v], []⟩) (fun _ R s => HH s.heap ∧
      R (.ok (.ret (.ref (s.heap.push o).objs.size))) { s with heap := (s.heap.push o).push { cls := .type "enumerate", data := .fields #[.none, .bool false, .ref s.heap.objs.size, rawInt 0, .none, .none] } }) :=
  .of_wp fun prog w A R s h => by
    obtain ⟨hp, g, d, tk, os⟩ := s; obtain ⟨h1, h⟩ := h
    have hsub := sub_enumerate
    have q1 : ∀ {A' : Around} {E : Value → Shared → Prop} {Q : Value → Shared → Prop}, Q (.ref hp.objs.size) ⟨hp.push o, g, d, tk, os⟩ → wpAny (model prog w) A' (pyIter v) Q E ⟨hp, g, d, tk, os⟩ :=
      fun q => B.iter prog w _ _ ⟨hp, g, d, tk, os⟩ _ h1 q
    wp_walk using q1
    refine wpAny_stack_any fun st => wpAny_pure ?_
    split
    · rename_i c _ _ _ _ _
      cases (c == Value.type "enumerate")
      · wp_walk using q1
        exact ⟨_, rfl, h⟩
      · wp_walk using q1
        exact ⟨_, rfl, h⟩
    · wp_walk using q1
      exact ⟨_, rfl, h⟩
theorem call_enum1 {prog : Program} {w : World} {A : Around} {E : Value → Shared → Prop} {s : Shared} {v : Value} {o : Obj} {HH : Heap → Prop} {Q : Value → Shared → Prop} (B : Begins v o HH) (h1 : HH s.heap)
    (h : ∀ h', IsEnum h' (s.heap.objs.size + 1) s.heap.objs.size 0 .none → h'.get? s.heap.objs.size = some o → h'.objs.size = s.heap.objs.size + 2 →
      (∀ b o, s.heap.get? b = some o → h'.get? b = some o) → Q (.ref (s.heap.objs.size + 1)) { s with heap := h' }) :
    wpAny (model prog w) A (call (.type "enumerate") [v]) Q E s := by
  refine callType_new F.called_enumerate (by decide) (F.typeCall_enumerate_1 _) (F.newCall_enumerate_1 _) (fun obj => F.args_object_init_2 obj _) F.entry_enumerate_new (new_enum1 B) ⟨h1, ?_⟩
  have hz : (s.heap.push o).objs.size = s.heap.objs.size + 1 := Heap.size_push ..
  show _ ∧ _
  rw [hz]
  have he : IsEnum ((s.heap.push o).push { cls := .type "enumerate", data := .fields #[.none, .bool false, .ref s.heap.objs.size, rawInt 0, .none, .none] }) (s.heap.objs.size + 1) s.heap.objs.size 0 .none := by
    have := Heap.get?_push_size (s.heap.push o) (o := { cls := .type "enumerate", data := .fields #[.none, .bool false, .ref s.heap.objs.size, rawInt 0, .none, .none] }) rfl
    rw [hz] at this; exact this
  refine ⟨⟨_, he, rfl⟩, h _ he (Heap.get?_push_of_some _ (Heap.get?_push_size _ B.free)) (by rw [Heap.size_push, hz]) fun b o x => Heap.get?_push_of_some _ (Heap.get?_push_of_some _ x)⟩

/-! ### a list (false) or a tuple (true) that is walked, its items in new pairs -/
def SqB (K : PySem.W.Frag) (H : Hp) (a : Addr) (xs : List V) : Bool → Prop
  | false => SqL K H a xs
  | true => SqT K H a xs
def ItB (h : Heap) (it a : Addr) (i : Nat) : Bool → Prop
  | false => h.IsListIter it a i
  | true => h.IsTupleIter it a i
def IsB (h : Heap) (a : Addr) (items : Array Value) : Bool → Prop
  | false => h.IsList a items
  | true => h.IsTuple a items
def obB (a : Addr) : Bool → Obj
  | false => { cls := .type "list_iterator", data := .fields #[.ref a, .int 0 0] }
  | true => { cls := .type "tuple_iterator", data := .fields #[.ref a, .int 0 0] }
theorem ItB.at {h h' : Heap} {it a : Addr} {i : Nat} : ∀ {t : Bool}, ItB h it a i t → (∀ o, h.get? it = some o → h'.get? it = some o) → ItB h' it a i t
  | false, x, k => Heap.IsListIter.at x k
  | true, x, k => Heap.IsTupleIter.at x k
theorem ItB.ob {h : Heap} {it a : Addr} {i : Nat} : ∀ {t : Bool}, ItB h it a i t → ∃ o, h.get? it = some o ∧ ∀ v, o.data ≠ .cell v
  | false, ⟨o, ho, _, hd⟩ => ⟨o, ho, fun v q => by rw [hd] at q; cases q⟩
  | true, ⟨o, ho, _, hd⟩ => ⟨o, ho, fun v q => by rw [hd] at q; cases q⟩
theorem ItB.new {h : Heap} {it a : Addr} : ∀ {t : Bool}, h.get? it = some (obB a t) → ItB h it a 0 t
  | false, e => ⟨_, e, rfl, rfl⟩
  | true, e => ⟨_, e, rfl, rfl⟩
theorem IsB.lt {h : Heap} {a : Addr} {items : Array Value} : ∀ {t : Bool}, IsB h a items t → a < h.objs.size
  | false, ⟨_, q, _⟩ => Heap.lt_size q
  | true, ⟨_, q, _⟩ => Heap.lt_size q
theorem beginsB (a : Addr) (items : Array Value) : ∀ t : Bool, Begins (.ref a) (obB a t) fun h => IsB h a items t
  | false => begins_list a items
  | true => begins_tuple a items
theorem drawsB {prog : Program} {w : World} {A : Around} (hh : A.handled = none) (it a : Addr) (hne : a ≠ it) (items : Array Value) :
    ∀ t : Bool, Draws prog w A it [it, a] items.size (fun i v => items[i]? = some v) (fun i h => ItB h it a i t ∧ IsB h a items t)
  | false => Draws.list hh it a hne items
  | true => Draws.tuple hh it a hne items
theorem SqB.ok {X : Cx} {pins : List (Addr × Obj)} {σ : L2.St} {H : Hp} {s : Shared} {a : Addr} {xs : List V} (I : Inv X pins σ H s) : ∀ {t : Bool}, SqB X.K H a xs t → ∃ its : List Value, Vals xs its ∧ IsB s.heap a its.toArray t ∧ xs.length ≤ sizeLine
  | false, q => let ⟨its, rv, p, hz⟩ := I.list q; ⟨its, rv, p.isList, hz⟩
  | true, q => let ⟨its, rv, p, hz⟩ := I.tuple q; ⟨its, rv, p, hz⟩
theorem SqB.inj {X : Cx} {pins : List (Addr × Obj)} {σ : L2.St} {H : Hp} {s : Shared} {a : Addr} {xs ys : List V} (I : Inv X pins σ H s) : ∀ {t : Bool}, SqB X.K H a xs t → SqB X.K H a ys t → xs = ys
  | false, q, r => I.list_inj q r
  | true, q, r => I.tuple_inj q r
/-- a new pair stands in the heap -/
theorem pairNew {X : Cx} {pins : List (Addr × Obj)} {σ : L2.St} {H : Hp} {s : Shared} {h' : Heap} {tk : Nat} {ch : List Addr} {x y : V} {u v : Value} (I : Inv X pins σ H s) (k : ∀ b o, b ∉ ch → s.heap.get? b = some o → h'.get? b = some o) (hf : ∀ b ∈ ch, FpOk X pins H b)
    (ru : RelV x u) (rv : RelV y v) (e : h'.get? s.heap.objs.size = some (tob [u, v])) : Inv X pins σ (upd H s.heap.objs.size (.frz (tob [u, v]) (.tup [x, y]))) { s with heap := h', toks := tk } :=
  I.turnedNew (ch := ch) k hf (Nat.le_refl _) ⟨e, by show 2 ≤ sizeLine; decide, [u, v], .cons ru (.cons rv .nil), ⟨_, e, rfl, _, rfl⟩⟩
def Itee (K : PySem.W.Frag) (t : Bool) (a : Addr) : It :=
  ⟨fun i H => ∃ (xs : List V) (x : V), SqB K H a xs t ∧ xs[i]? = some x, fun i H v H' => ∃ T o x, v = .ref T ∧ H T = none ∧ PlO o ∧ H' = upd H T (.frz o (.tup [.int (i : Nat), x])) ∧ ∀ xs, SqB K H a xs t → xs[i]? = some x, fun i H => ∃ xs : List V, SqB K H a xs t ∧ xs.length ≤ i⟩
theorem turn_ee {P : Program} {w : World} {K : PySem.W.Frag} {elts : List Expr} {kk : Nat} {tpos : Pos} (t : Bool) (a e it : Addr) (hai : a ≠ it) (hea : e ≠ a) :
    Turn P w K (.Tuple elts kk tpos) (Itee K t a) [e, it] e (fun i h => (∃ old, IsEnum h e it ((i : Nat) : Int) old) ∧ ItB h it a i t ∧ e ≠ it) where
  mem := by simp
  obj := fun i h st b hb => by
    obtain ⟨⟨old, he⟩, hi, _⟩ := st
    have e' : b = e ∨ b = it := by simpa using hb
    rcases e' with z | z
    · rw [z]; exact ⟨_, he, fun v q => nomatch q⟩
    · rw [z]; exact hi.ob
  keep := fun i h h' st k => let ⟨⟨old, he⟩, hi, hne⟩ := st; ⟨⟨old, k e (by simp) _ he⟩, hi.at fun o q => k it (by simp) o q, hne⟩
  item := by
    intro X hP hw hK hc i pins s σ H E I hf st hg
    subst hP hw hK
    obtain ⟨⟨old, he⟩, hit, hne⟩ := st
    obtain ⟨xs, x, hq, hx⟩ := hg
    obtain ⟨its, rv, p, hz⟩ := hq.ok I
    obtain ⟨u, hu, ru⟩ := rv.get hx
    have hel : e < s.heap.objs.size := Heap.lt_size he
    have hil : it < s.heap.objs.size := by obtain ⟨_, q, _⟩ := hit.ob; exact Heap.lt_size q
    have hlt : i < its.toArray.size := by
      have := (List.getElem?_eq_some_iff.mp hu).1
      simpa using this
    refine wpAny_pyNext_enum_itemC (drawsB (A := X.A.in1) (I.ok.hd hc) it a hai its.toArray t) he ⟨hit, p⟩ hlt hne (by simp [hne, hea]) fun y h' tk hy ho hit' hT hsz hk => ?_
    have ey : y = u := by
      have : its[i]? = some y := by simpa using hy
      rw [hu] at this; cases this; rfl
    subst ey
    refine ⟨_, rfl, wpAny_letOwnedTupleGo_enum (s := { s with heap := h', toks := tk + 1 }) ho fun h'' he' sb => ?_⟩
    have hT2 : h''.get? s.heap.objs.size = some (tob [.int i tk, y]) := (sb.2 _ (Nat.ne_of_gt hel)).trans hT
    have I1 := pairNew (tk := tk + 1) (ch := [e, it]) (x := .int (i : Nat)) (y := x) I (fun b ob hb q => (sb.2 b (fun z => hb (by simp [z]))).trans (hk b ob (fun z => hb (by simp [z])) (fun z => hb (by simp [z])) q)) hf ⟨_, rfl⟩ ru hT2
    refine ⟨.ref s.heap.objs.size, _, I1, rfl, ⟨_, _, x, rfl, I.hok.fresh (Nat.le_refl _), ⟨rfl, rfl⟩, rfl, fun ys hy => by rw [hy.inj I hq]; exact hx⟩, ⟨⟨y, ?_⟩, hit'.1.at fun o q => (sb.2 it (Ne.symm hne)).trans q, hne⟩, fun b hb => ?_⟩
    · have e1 : ((i + 1 : Nat) : Int) = (i : Int) + 1 := by omega
      rw [e1]; exact he'
    · have hb' : b < s.heap.objs.size := by
        have e' : b = e ∨ b = it := by simpa using hb
        rcases e' with z | z
        · rw [z]; exact hel
        · rw [z]; exact hil
      rw [upd_ne (Nat.ne_of_lt hb')]
      exact (hf b hb).1
  done := by
    intro X hP hw hK hc i pins s σ H E I hf st hg
    subst hP hw hK
    obtain ⟨⟨old, he⟩, hit, hne⟩ := st
    obtain ⟨xs, hq, hx⟩ := hg
    obtain ⟨its, rv, p, hz⟩ := hq.ok I
    obtain ⟨f0, f1, f2, f3, f4, f5⟩ := hf it (by simp)
    have hl := rv.length
    have hT : s.TypeIs (.ref e) "enumerate" := ⟨_, he, rfl⟩
    unfold pyNext
    refine wpAny_bind (wpAny_attempt (wpAny_callSpecial?_slot (name := Str.ofString "__next__") hT F.slot_enumerate_next
      (wpAny_call_entry F.slot_enumerate_next hT F.entry_enumerate_next ?_ (F.args_enumerate_next_1 _))))
    show wpAny _ _ (field (.ref e) 2 >>= _) _ _ _
    refine wpAny_bind (wpAny_field he rfl (x := .ref it) rfl ?_)
    cases t with
    | true =>
      refine wpAny_bind (wpAny_nextOf_tuple_end (A := X.A.in1) (I.ok.hd hc) hit (show s.heap.IsTuple a its.toArray from p) (by simp; omega) fun h' x he' hx' => ?_)
      obtain ⟨o, ho, hc'⟩ := hx'
      refine wpAny_bind (wpAny_isInstance (T := "StopIteration") (b := true) ⟨o, ho, hc'⟩ isSubtype_stop ?_)
      exact wpAny_pure ⟨rfl, I.turned (t' := s.toks) (fun b o hb q => he' b o hb q) f0 f1 f3 f4 f5⟩
    | false =>
      refine wpAny_bind (wpAny_nextOf_list_end (A := X.A.in1) (I.ok.hd hc) hit (show s.heap.IsList a its.toArray from p) (by simp; omega) fun h' x he' hx' => ?_)
      obtain ⟨o, ho, hc'⟩ := hx'
      refine wpAny_bind (wpAny_isInstance (T := "StopIteration") (b := true) ⟨o, ho, hc'⟩ isSubtype_stop ?_)
      exact wpAny_pure ⟨rfl, I.turned (t' := s.toks) (fun b o hb q => he' b o hb q) f0 f1 f3 f4 f5⟩
  self := fun A i s Q E st h => let ⟨⟨_, he⟩, _⟩ := st; wpAny_pyIter_enum he h

/-- which sort of thing a path of data is -/
def iEnumB (K : PySem.W.Frag) (ta : TA) : TI := fun σ H R => ta σ H fun vs H1 => ∃ a xs t, vs = [.ref a] ∧ SqB K H1 a xs t ∧ R (Itee K t a) H1
theorem pi_enumB {X : Cx} {e : Expr} {ta : TA} {p pos tpos : Pos} {elts : List Expr} {kk : Nat} (hg : Gl X "enumerate") (hm : X.mg "enumerate" = none) (ha : PA X [e] ta) (hs : starEach [e] X.env = [(false, eval e X.env)]) :
    PI X (.Tuple elts kk tpos) (.Call (.Name "enumerate" p) [e] [] pos) (iEnumB X.K ta) := by
  refine ⟨fun pins s σ H R I h => ?_⟩
  refine Call_ (ld_blt I hg hm boot_enumerate (PyProof.Rows.callWith_type1 (thn (ha.run pos pins s σ H _ I h) fun us s1 ⟨vs, H1, I1, r1, q1⟩ => ?_) hs rfl))
  obtain ⟨a, xs, t, ex, hq, q⟩ := q1
  subst ex
  cases r1 with
  | cons r rr =>
    cases rr
    cases r
    obtain ⟨its, rv, p', hz⟩ := hq.ok I1
    have hla := p'.lt
    refine call_enum1 (beginsB a its.toArray t) p' fun h' he hit hsz hk => wpAny_pyIter_enum he ?_
    have I2 : Inv X pins σ H1 { s1 with heap := h' } := I1.kept (t' := s1.toks) hk
    refine ⟨s1.heap.objs.size + 1, [s1.heap.objs.size + 1, s1.heap.objs.size], _, _, H1, rfl, I2, turn_ee t a (s1.heap.objs.size + 1) s1.heap.objs.size (Nat.ne_of_lt hla) (Ne.symm (Nat.ne_of_lt (Nat.lt_succ_of_lt hla))), ⟨⟨.none, he⟩, ItB.new hit, Nat.succ_ne_self _⟩, fun b hb => ?_, q⟩
    have e' : b = s1.heap.objs.size + 1 ∨ b = s1.heap.objs.size := by simpa using hb
    have hle : s1.heap.objs.size ≤ b := by
      rcases e' with z | z
      · rw [z]; exact Nat.le_add_right _ _
      · rw [z]; exact Nat.le_refl _
    exact I1.fpOk hle (I1.hok.fresh hle)

/-! zip -/
def Itzz (K : PySem.W.Frag) (t t2 : Bool) (a b : Addr) : It :=
  ⟨fun i H => ∃ (xs ys : List V) (x y : V), SqB K H a xs t ∧ SqB K H b ys t2 ∧ xs[i]? = some x ∧ ys[i]? = some y,
    fun i H v H' => ∃ T o x y, v = .ref T ∧ H T = none ∧ PlO o ∧ H' = upd H T (.frz o (.tup [x, y])) ∧ (∀ xs, SqB K H a xs t → xs[i]? = some x) ∧ ∀ ys, SqB K H b ys t2 → ys[i]? = some y,
    fun i H => ∃ xs ys : List V, SqB K H a xs t ∧ SqB K H b ys t2 ∧ i = min xs.length ys.length⟩
structure Zap (z TI TO i1 i2 a b : Addr) : Prop where
  sep : ZipSep2 z TI TO i1 i2 [i1, a] [i2, b]
  a1 : a ≠ i1
  b1 : b ≠ i2
theorem turn_zz {P : Program} {w : World} {K : PySem.W.Frag} {elts : List Expr} {kk : Nat} {tpos : Pos} (t t2 : Bool) {a b z TI TO i1 i2 : Addr} (D : Zap z TI TO i1 i2 a b) :
    Turn P w K (.Tuple elts kk tpos) (Itzz K t t2 a b) [z, TI, TO, i1, i2] z (fun i h => IsZip h z TI TO .none ∧ IsTupOf2 h TI (.ref i1) (.ref i2) ∧ (∃ x y, IsTupOf2 h TO x y) ∧ ItB h i1 a i t ∧ ItB h i2 b i t2) where
  mem := by simp
  obj := fun i h st c hc => by
    obtain ⟨hz, hTI, ⟨x, y, hTO⟩, h1, h2⟩ := st
    have e' : c = z ∨ c = TI ∨ c = TO ∨ c = i1 ∨ c = i2 := by simpa using hc
    rcases e' with q | q | q | q | q
    · rw [q]; exact ⟨_, hz, fun v q => nomatch q⟩
    · rw [q]; exact ⟨_, hTI, fun v q => nomatch q⟩
    · rw [q]; exact ⟨_, hTO, fun v q => nomatch q⟩
    · rw [q]; exact h1.ob
    · rw [q]; exact h2.ob
  keep := fun i h h' st k => by
    obtain ⟨hz, hTI, ⟨x, y, hTO⟩, h1, h2⟩ := st
    exact ⟨k z (by simp) _ hz, k TI (by simp) _ hTI, ⟨x, y, k TO (by simp) _ hTO⟩, h1.at fun o q => k i1 (by simp) o q, h2.at fun o q => k i2 (by simp) o q⟩
  item := by
    intro X hP hw hK hc i pins s σ H E I hf st hg
    subst hP hw hK
    obtain ⟨hz, hTI, ⟨x0, y0, hTO⟩, h1, h2⟩ := st
    obtain ⟨xs, ys, x, y, hqx, hqy, hx, hy⟩ := hg
    obtain ⟨its, rv, p, _⟩ := hqx.ok I
    obtain ⟨its2, rv2, p2, _⟩ := hqy.ok I
    obtain ⟨u, hu, ru⟩ := rv.get hx
    obtain ⟨u2, hu2, ru2⟩ := rv2.get hy
    have hzl : z < s.heap.objs.size := Heap.lt_size hz
    have S := D.sep
    refine wpAny_pyNext_zipD2_item S (drawsB (A := X.A.in1) (I.ok.hd hc) i1 a D.a1 its.toArray t) (drawsB (A := X.A.in1) (I.ok.hd hc) i2 b D.b1 its2.toArray t2) hz hTI hTO ⟨h1, p⟩ ⟨h2, p2⟩
      (by simpa using (List.getElem?_eq_some_iff.mp hu).1) (by simpa using (List.getElem?_eq_some_iff.mp hu2).1) fun y1 y2 h' tk e1 e2 z' TO' h1' h2' hT hsz hk => ?_
    have ey : y1 = u := by
      have : its[i]? = some y1 := by simpa using e1
      rw [hu] at this; cases this; rfl
    have ey2 : y2 = u2 := by
      have : its2[i]? = some y2 := by simpa using e2
      rw [hu2] at this; cases this; rfl
    subst ey ey2
    refine ⟨_, rfl, wpAny_letOwnedTupleGo_zip (s := { s with heap := h', toks := tk }) z' fun h'' z'' sb => ?_⟩
    have hT2 : h''.get? s.heap.objs.size = some (tob [y1, y2]) := (sb.2 _ (Nat.ne_of_gt hzl)).trans hT
    have I1 := pairNew (tk := tk) (ch := [z, TI, TO, i1, i2]) (x := x) (y := y) I (fun c o hb q => (sb.2 c (fun q' => hb (by simp [q']))).trans (hk c o (fun q' => hb (by simp [q'])) (fun q' => hb (by simp [q'])) (fun q' => hb (by simp [q'])) (fun q' => hb (by simp [q'])) q)) hf ru ru2 hT2
    have n1 : i1 ≠ z := Ne.symm S.zi1
    have n2 : i2 ≠ z := Ne.symm S.zi2
    refine ⟨.ref s.heap.objs.size, _, I1, rfl, ⟨_, _, x, y, rfl, I.hok.fresh (Nat.le_refl _), ⟨rfl, rfl⟩, rfl, fun l hl => by rw [hl.inj I hqx]; exact hx, fun l hl => by rw [hl.inj I hqy]; exact hy⟩, ⟨z'', ?_, ⟨y1, y2, ?_⟩, ?_, ?_⟩, fun c hcm => ?_⟩
    · exact (sb.2 _ S.TIz).trans (hk _ _ S.TIz S.TITO S.TIi1 S.TIi2 hTI)
    · exact (sb.2 _ S.TOz).trans TO'
    · exact h1'.1.at fun o q => (sb.2 _ n1).trans q
    · exact h2'.1.at fun o q => (sb.2 _ n2).trans q
    · have hlt : c < s.heap.objs.size := by
        have e' : c = z ∨ c = TI ∨ c = TO ∨ c = i1 ∨ c = i2 := by simpa using hcm
        rcases e' with q | q | q | q | q
        · rw [q]; exact hzl
        · rw [q]; exact Heap.lt_size hTI
        · rw [q]; exact Heap.lt_size hTO
        · rw [q]; obtain ⟨_, e1, _⟩ := h1.ob; exact Heap.lt_size e1
        · rw [q]; obtain ⟨_, e2, _⟩ := h2.ob; exact Heap.lt_size e2
      rw [upd_ne (Nat.ne_of_lt hlt)]
      exact (hf c hcm).1
  done := by
    intro X hP hw hK hc i pins s σ H E I hf st hg
    subst hP hw hK
    obtain ⟨hz, hTI, ⟨x0, y0, hTO⟩, h1, h2⟩ := st
    obtain ⟨xs, ys, hqx, hqy, hend⟩ := hg
    obtain ⟨its, rv, p, _⟩ := hqx.ok I
    obtain ⟨its2, rv2, p2, _⟩ := hqy.ok I
    have l1 := rv.length
    have l2 := rv2.length
    exact wpAny_pyNext_zipD2_end D.sep (drawsB (A := X.A.in1) (I.ok.hd hc) i1 a D.a1 its.toArray t) (drawsB (A := X.A.in1) (I.ok.hd hc) i2 b D.b1 its2.toArray t2) hz hTI hTO ⟨h1, p⟩ ⟨h2, p2⟩
      (by simp; omega) (by simp; omega) (by simp; omega) fun h' tk hk => ⟨rfl, I.turnedL (t' := tk) (ch := [z, TI, TO, i1, i2]) (fun c o hb q =>
        hk c o (fun q' => hb (by simp [q'])) (fun q' => hb (by simp [q'])) (fun q' => hb (by simp [q'])) (fun q' => hb (by simp [q'])) q) hf⟩
  self := fun A i s Q E st h => wpAny_pyIter_zip st.1 h
theorem zap_new {n a b : Nat} (ha : a < n) (hb : b < n) : Zap (n + 4) (n + 2) (n + 3) n (n + 1) a b := by
  refine ⟨⟨?_, ?_, ?_, ?_, ?_, ?_, ?_, ?_, ?_, ?_, ?_, ?_, ?_⟩, ?_, ?_⟩ <;> simp only [Addr, List.mem_cons, List.not_mem_nil, or_false, ne_eq, true_or, not_or] <;> omega
def iZipB (K : PySem.W.Frag) (ta : TA) : TI := fun σ H R => ta σ H fun vs H1 => ∃ a b xs ys t t2, vs = [.ref a, .ref b] ∧ SqB K H1 a xs t ∧ SqB K H1 b ys t2 ∧ R (Itzz K t t2 a b) H1
theorem pi_zipB {X : Cx} {e e2 : Expr} {ta : TA} {p pos tpos : Pos} {elts : List Expr} {kk : Nat} (hg : Gl X "zip") (hm : X.mg "zip" = none) (ha : PA X [e, e2] ta)
    (hs : starEach [e, e2] X.env = (false, eval e X.env) :: starEach [e2] X.env) (hpl : (backTo pos (starEach [e2] X.env)).any (·.1) = false) :
    PI X (.Tuple elts kk tpos) (.Call (.Name "zip" p) [e, e2] [] pos) (iZipB X.K ta) := by
  refine ⟨fun pins s σ H R I h => ?_⟩
  refine Call_ (ld_blt I hg hm PyProof.Rows.boot_zip (PyProof.Rows.callWith_type1 (thn (ha.run pos pins s σ H _ I h) fun us s1 ⟨vs, H1, I1, r1, q1⟩ => ?_) hs hpl))
  obtain ⟨a, b, xs, ys, t, t2, ex, hqx, hqy, q⟩ := q1
  subst ex
  cases r1 with
  | cons r rr =>
    cases rr with
    | cons r' rr =>
      cases rr
      cases r
      cases r'
      obtain ⟨its, rv, p1, _⟩ := hqx.ok I1
      obtain ⟨its2, rv2, p2, _⟩ := hqy.ok I1
      refine zip_begins2 (beginsB a its.toArray t) (beginsB b its2.toArray t2) p1 p2 fun h' hz hTI hTO h1 h2 hsz hk => wpAny_pyIter_zip hz ?_
      have I2 : Inv X pins σ H1 { s1 with heap := h' } := I1.kept (t' := s1.toks) hk
      refine ⟨s1.heap.objs.size + 4, [s1.heap.objs.size + 4, s1.heap.objs.size + 2, s1.heap.objs.size + 3, s1.heap.objs.size, s1.heap.objs.size + 1], _, _, H1, rfl, I2, turn_zz t t2 (zap_new p1.lt p2.lt), ⟨hz, hTI, ⟨_, _, hTO⟩, ItB.new h1, ItB.new h2⟩, fun c hcm => ?_, q⟩
      have e' : c = s1.heap.objs.size + 4 ∨ c = s1.heap.objs.size + 2 ∨ c = s1.heap.objs.size + 3 ∨ c = s1.heap.objs.size ∨ c = s1.heap.objs.size + 1 := by simpa using hcm
      have hle : s1.heap.objs.size ≤ c := by
        rcases e' with z | z | z | z | z
        · rw [z]; exact Nat.le_add_right _ _
        · rw [z]; exact Nat.le_add_right _ _
        · rw [z]; exact Nat.le_add_right _ _
        · rw [z]; exact Nat.le_refl _
        · rw [z]; exact Nat.le_add_right _ _
      exact I1.fpOk hle (I1.hok.fresh hle)

section
variable {K : PySem.W.Frag}
theorem RDs.len {H : Hp} : ∀ {ds : List PyData} {us : List V} {as : List Addr}, RDs K H us ds as → us.length = ds.length
  | _, _, _, .nil => rfl
  | _, _, _, .cons _ t => by simp [RDs.len t]
theorem RDs.at {H : Hp} : ∀ {ds : List PyData} {us : List V} {as : List Addr} {i : Nat} {x : V}, RDs K H us ds as → us[i]? = some x → ∃ d bs, ds[i]? = some d ∧ RD K H x d bs ∧ ∀ a ∈ bs, a ∈ as
  | _, _, _, i, _, .nil, e => by simp at e
  | _, _, _, i, _, .cons r t, e => by
    cases i with
    | zero => simp at e; subst e; exact ⟨_, _, rfl, r, fun a z => List.mem_append_left _ z⟩
    | succ i =>
      obtain ⟨d, bs, h1, h2, h3⟩ := RDs.at t (by simpa using e)
      exact ⟨d, bs, by simpa using h1, h2, fun a z => List.mem_append_right _ (h3 a z)⟩
def GL (K : PySem.W.Frag) (a : Addr) (us : List V) (ds : List PyData) (as : List Addr) : Hp → Prop := fun H => H a = some (.lst us) ∧ RDs K H us ds as
def GT (K : PySem.W.Frag) (a : Addr) (us : List V) (ds : List PyData) (as : List Addr) : Hp → Prop := fun H => SqT K H a us ∧ RDs K H us ds as
theorem GL.keep {a : Addr} {us : List V} {ds : List PyData} {as W : List Addr} {H H' : Hp} (g : GL K a us ds as H) (p : Pres W H H') (wm : WM W H) (n : ∀ b ∈ a :: as, b ∉ W) : GL K a us ds as H' :=
  ⟨p a _ g.1 (n a List.mem_cons_self), g.2.pres p wm fun b z => n b (List.mem_cons_of_mem _ z)⟩
theorem GL.ex {a : Addr} {us : List V} {ds : List PyData} {as : List Addr} {H : Hp} (g : GL K a us ds as H) : ∀ b ∈ a :: as, H b ≠ none := fun b z => by
  rcases List.mem_cons.mp z with z | z
  · rw [z, g.1]; exact fun z => nomatch z
  · exact g.2.dom b z
theorem iw_list {H : Hp} {a : Addr} {us : List V} {ds : List PyData} {as : List Addr} (g : GL K a us ds as H) : IW K (Itl K a) ds (a :: as) (GL K a us ds as) where
  w := by
    rw [← g.2.len]
    exact (walk_list (K := K) (a := a) (xs := us)).mono (fun H g => .inl (.inl g.1)) fun i H x H' _ g y => by
      obtain ⟨rfl, e⟩ := y
      obtain ⟨d, bs, h1, h2, h3⟩ := g.2.at e
      exact ⟨Pres.refl, d, bs, h1, h2, fun b z => List.mem_cons_of_mem _ (h3 b z)⟩
  keep := fun g p wm n => g.keep p wm n
  ex := fun g => g.ex
theorem iw_tup {H : Hp} {a : Addr} {us : List V} {ds : List PyData} {as : List Addr} (g : GT K a us ds as H) : IW K (Itt K a) ds as (GT K a us ds as) where
  w := by
    rw [← g.2.len]
    exact (walk_tup (K := K) (a := a) (xs := us)).mono (fun H g => g.1) fun i H x H' _ g y => by
      obtain ⟨rfl, e⟩ := y
      obtain ⟨d, bs, h1, h2, h3⟩ := g.2.at e
      exact ⟨Pres.refl, d, bs, h1, h2, h3⟩
  keep := fun g p wm n => ⟨SqT.pres p wm g.1, g.2.pres p wm n⟩
  ex := fun g => g.2.dom
theorem enumD_at : ∀ {ds : List PyData} {n i : Nat} {d : PyData}, ds[i]? = some d → (enumD n ds)[i]? = some (.tuple [.int ((n + i : Nat) : Int), d])
  | [], _, _, _, e => by simp at e
  | d :: ds, n, 0, _, e => by simp at e; subst e; simp [enumD]
  | d :: ds, n, i + 1, _, e => by
    have := enumD_at (n := n + 1) (show ds[i]? = some _ by simpa using e)
    simpa [enumD, Nat.add_assoc, Nat.add_comm 1 i] using this
theorem enumD_len : ∀ (ds : List PyData) (n : Nat), (enumD n ds).length = ds.length
  | [], _ => rfl
  | d :: ds, n => by simp [enumD, enumD_len ds]
theorem zipD_at : ∀ {ds es : List PyData} {i : Nat} {d e : PyData}, ds[i]? = some d → es[i]? = some e → (zipD ds es)[i]? = some (.tuple [d, e])
  | [], _, _, _, _, e, _ => by simp at e
  | _ :: _, [], _, _, _, _, e => by simp at e
  | d :: ds, e :: es, 0, _, _, h1, h2 => by simp at h1 h2; subst h1 h2; simp [zipD]
  | d :: ds, e :: es, i + 1, _, _, h1, h2 => by
    simpa [zipD] using zipD_at (show ds[i]? = some _ by simpa using h1) (show es[i]? = some _ by simpa using h2)
theorem zipD_len : ∀ (ds es : List PyData), (zipD ds es).length = min ds.length es.length
  | [], es => by simp [zipD]
  | _ :: _, [] => by simp [zipD]
  | d :: ds, e :: es => by simp [zipD, zipD_len ds es]
def GB (K : PySem.W.Frag) (a : Addr) (us : List V) (ds : List PyData) (as : List Addr) : Bool → Hp → Prop
  | false => GL K a us ds as
  | true => GT K a us ds as
def asB (a : Addr) (as : List Addr) : Bool → List Addr
  | false => a :: as
  | true => as
theorem asB.mem {a : Addr} {as : List Addr} : ∀ {t : Bool} {b : Addr}, b ∈ as → b ∈ asB a as t
  | false, _, h => List.mem_cons_of_mem _ h
  | true, _, h => h
theorem GB.sq {a : Addr} {us : List V} {ds : List PyData} {as : List Addr} {H : Hp} : ∀ {t : Bool}, GB K a us ds as t H → SqB K H a us t
  | false, g => .inl (.inl g.1)
  | true, g => g.1
theorem GB.rd {a : Addr} {us : List V} {ds : List PyData} {as : List Addr} {H : Hp} : ∀ {t : Bool}, GB K a us ds as t H → RDs K H us ds as
  | false, g => g.2
  | true, g => g.2
theorem GB.keep {a : Addr} {us : List V} {ds : List PyData} {as W : List Addr} {H H' : Hp} : ∀ {t : Bool}, GB K a us ds as t H → Pres W H H' → WM W H → (∀ b ∈ asB a as t, b ∉ W) → GB K a us ds as t H'
  | false, g, p, wm, n => GL.keep g p wm n
  | true, g, p, wm, n => ⟨SqT.pres p wm g.1, g.2.pres p wm n⟩
theorem GB.ex {a : Addr} {us : List V} {ds : List PyData} {as : List Addr} {H : Hp} : ∀ {t : Bool}, GB K a us ds as t H → ∀ b ∈ asB a as t, H b ≠ none
  | false, g => GL.ex g
  | true, g => g.2.dom
theorem RDs.new {us : List V} {ds : List PyData} {as : List Addr} {H : Hp} {p : Addr} {o : HO} (r : RDs K H us ds as) (h : H p = none) : RDs K (upd H p o) us ds as := r.pres (Pres.new h) (fun _ z => nomatch z) (fun _ _ z => nomatch z)
theorem RD.new {u : V} {d : PyData} {as : List Addr} {H : Hp} {p : Addr} {o : HO} (r : RD K H u d as) (h : H p = none) : RD K (upd H p o) u d as := r.pres (Pres.new h) (fun _ z => nomatch z) (fun _ _ z => nomatch z)
theorem iw_ee {t : Bool} {H : Hp} {a : Addr} {us : List V} {ds : List PyData} {as : List Addr} (g : GB K a us ds as t H) : IW K (Itee K t a) (enumD 0 ds) (asB a as t) (GB K a us ds as t) where
  w := by
    rw [enumD_len, ← g.rd.len]
    refine ⟨fun i H hi g => ⟨us, us[i], g.sq, by simp [hi]⟩, fun H g => ⟨us, g.sq, Nat.le_refl _⟩, fun i H v H' hi g y => ?_⟩
    obtain ⟨T, o, x, rfl, h2, hd, rfl, h5⟩ := y
    obtain ⟨d, bs, q1, q2, q3⟩ := g.rd.at (h5 us g.sq)
    refine ⟨Pres.new h2, _, [] ++ (bs ++ []), enumD_at q1, .tup (SqN.new hd) (.cons ?_ (.cons (q2.new h2) .nil)), fun b z => asB.mem (q3 b (by simpa using z))⟩
    rw [Nat.zero_add]
    exact .int _
  keep := fun g p wm n => g.keep p wm n
  ex := fun g => g.ex
theorem iw_zz {t t2 : Bool} {H : Hp} {a c : Addr} {us ws : List V} {ds es : List PyData} {as cs : List Addr} (g : GB K a us ds as t H) (g' : GB K c ws es cs t2 H) :
    IW K (Itzz K t t2 a c) (zipD ds es) (asB a as t ++ asB c cs t2) (fun H => GB K a us ds as t H ∧ GB K c ws es cs t2 H) where
  w := by
    rw [zipD_len, ← g.rd.len, ← g'.rd.len]
    refine ⟨fun i H hi g => ⟨us, ws, us[i]'(by omega), ws[i]'(by omega), g.1.sq, g.2.sq, by simp, by simp⟩, fun H g => ⟨us, ws, g.1.sq, g.2.sq, rfl⟩, fun i H v H' hi g y => ?_⟩
    obtain ⟨T, o, x, y, rfl, h2, hd, rfl, h4, h5⟩ := y
    obtain ⟨d, bs, q1, q2, q3⟩ := g.1.rd.at (h4 us g.1.sq)
    obtain ⟨e, cs', p1, p2, p3⟩ := g.2.rd.at (h5 ws g.2.sq)
    refine ⟨Pres.new h2, _, bs ++ (cs' ++ []), zipD_at q1 p1, .tup (SqN.new hd) (.cons (q2.new h2) (.cons (p2.new h2) .nil)), fun b z => ?_⟩
    rcases List.mem_append.mp z with z | z
    · exact List.mem_append_left _ (asB.mem (q3 b z))
    · exact List.mem_append_right _ (asB.mem (p3 b (by simpa using z)))
  keep := fun g p wm n => ⟨g.1.keep p wm fun b z => n b (List.mem_append_left _ z), g.2.keep p wm fun b z => n b (List.mem_append_right _ z)⟩
  ex := fun g b z => (List.mem_append.mp z).elim (g.1.ex b) (g.2.ex b)
theorem iw_range {i j : Int} : IW K (Itr i (j - i).toNat) (rangeD i j) [] (fun _ => True) where
  w := by
    have hl : (rangeD i j).length = (j - i).toNat := by simp [rangeD]
    rw [hl]
    exact (walk_range (lo := i) (n := (j - i).toNat)).mono (fun H g => g) fun k H x H' hk g y => by
      obtain ⟨rfl, rfl⟩ := y
      refine ⟨Pres.refl, .int (i + k), [], ?_, .int _, fun b z => nomatch z⟩
      simp [rangeD, List.getElem?_map, List.getElem?_range hk]
  keep := fun _ _ _ _ => trivial
  ex := fun _ _ z => nomatch z
end

section
variable {Y : Yx} {X : Cx} {tg ea eb : Expr} {es : List Expr} {fa fb : EvF} {fA : LS → Res (List LV × LS)} {b ba bb : Bool} {pos : Pos}
theorem RD.items {K : PySem.W.Frag} {H : Hp} {v : V} {d : PyData} {as : List Addr} {ds : List PyData} (r : RD K H v d as) (e : itemsD d = some ds) : (∃ a us as', v = .ref a ∧ as = a :: as' ∧ GL K a us ds as' H) ∨ (∃ a us, v = .ref a ∧ GT K a us ds as H) := by
  cases r with
  | lst h r => cases e; exact .inl ⟨_, _, _, rfl, rfl, h, r⟩
  | tup h r => cases e; exact .inr ⟨_, _, rfl, h.sqt, r⟩
  | _ => cases e
theorem RD.listD {K : PySem.W.Frag} {H : Hp} {v : V} {d : PyData} {as : List Addr} {ds : List PyData} (r : RD K H v d as) (e : MP.listD d = some ds) : ∃ a us as', v = .ref a ∧ as = a :: as' ∧ GL K a us ds as' H := by
  cases r with
  | lst h r => cases e; exact ⟨_, _, _, rfl, rfl, h, r⟩
  | _ => cases e
theorem RD.itemsB {K : PySem.W.Frag} {H : Hp} {v : V} {d : PyData} {as : List Addr} {ds : List PyData} (r : RD K H v d as) (e : itemsD d = some ds) : ∃ t a us as', v = .ref a ∧ as = asB a as' t ∧ GB K a us ds as' t H := by
  rcases r.items e with ⟨a, us, as', rfl, rfl, g⟩ | ⟨a, us, rfl, g⟩
  · exact ⟨false, a, us, as', rfl, rfl, g⟩
  · exact ⟨true, a, us, as, rfl, rfl, g⟩
theorem listD_items {d : PyData} {ds : List PyData} (e : MP.listD d = some ds) : itemsD d = some ds := by
  cases d <;> first | exact e | cases e
/-- a walk of data that was found -/
theorem relIt_of {H : Hp} {m : List Addr} {F : Addr → Prop} {J : It} {ds : List PyData} {as : List Addr} {G : Hp → Prop} {l : Bool} (iw : IW Y.K J ds as G) (g : G H) (f : l = false → ∀ a ∈ as, F a) : relIt Y H m F J (ds.map (mkImm l), l) [] := ⟨rfl, ds, as, G, iw, g, rfl, f⟩
theorem itp_conv {vs : L2.St} {H : Hp} {Q : It → Hp → Prop} (h : tG Y b (relIt Y) (itP fa) vs H Q) : iAny Y.K (tG Y b (relV Y) fa) vs H Q := by
  obtain ⟨s, R, m, A, B, l, n, h⟩ := h
  refine ⟨s, R, m, A, B, l, n, h.split id fun p hp h1 y H1 m1 A1 B1 P x1 r1 => ?_⟩
  revert h1
  cases e1 : p.1.dat p.2.ob with
  | none => exact fun h => h.elim
  | some d =>
    simp only
    cases e2 : itemsD d with
    | none => exact fun h => h.elim
    | some ds =>
      intro h1
      obtain ⟨as, rd, f⟩ := r1.rd x1.obF e1
      have hf : p.1.lh = false → ∀ a ∈ as, Fz R (A1 ++ B1 ++ []) a := fun e a z => by
        rw [List.append_nil]
        rcases f a z with w | w | w
        · exact ⟨fun u => w.1 (List.mem_append_left _ u), w.2⟩
        · exact ⟨fun u => x1.disj a u w, x1.nr a w⟩
        · rw [e] at w; cases w
      rcases rd.items e2 with ⟨a, us, as', rfl, rfl, g⟩ | ⟨a, us, rfl, g⟩
      · exact .inl ⟨a, rfl, ⟨us, .inl (.inl g.1)⟩, h1 _ H1 m1 A1 B1 [] x1.drop (relIt_of (iw_list g) g hf)⟩
      · exact .inr ⟨a, rfl, ⟨us, g.1⟩, h1 _ H1 m1 A1 B1 [] x1.drop (relIt_of (iw_tup g) g hf)⟩
theorem si_any (hK : X.K = Y.K) (ha : SE Y X b fa ea) : SI Y X b (itP fa) tg ea := PIw (pi_any ha) fun vs H Q h => by rw [hK]; exact itp_conv h
theorem rng1_conv {vs : L2.St} {H : Hp} {Q : It → Hp → Prop} (h : tG Y b (relIt Y) (itR1 fA) vs H Q) : iRng1 (tG Y b (relVs Y) fA) vs H Q := by
  obtain ⟨s, R, m, A, B, l, n, h⟩ := h
  refine ⟨s, R, m, A, B, l, n, h.split id fun p hp h1 y H1 m1 A1 B1 P x1 r1 => ?_⟩
  obtain ⟨xs, s1⟩ := p
  simp only at r1 h1 x1
  split at h1
  · rename_i j
    by_cases hj : small62 j = true
    · rw [if_pos hj] at h1
      cases r1 with
      | cons r t =>
        cases t
        cases r with
        | imm r f =>
          cases r
          have hj' := hj
          simp only [small62, decide_eq_true_eq] at hj'
          refine ⟨j, rfl, hj'.1, hj'.2, ?_⟩
          have e : j.toNat = (j - 0).toNat := by rw [Int.sub_zero]
          rw [e]
          exact h1 _ H1 m1 A1 B1 [] x1.drop (relIt_of (l := false) iw_range trivial fun _ _ z => nomatch z)
    · rw [if_neg hj] at h1; exact h1.elim
  · exact h1.elim
theorem rng2_conv {vs : L2.St} {H : Hp} {Q : It → Hp → Prop} (h : tG Y b (relIt Y) (itR2 fA) vs H Q) : iRng2 (tG Y b (relVs Y) fA) vs H Q := by
  obtain ⟨s, R, m, A, B, l, n, h⟩ := h
  refine ⟨s, R, m, A, B, l, n, h.split id fun p hp h1 y H1 m1 A1 B1 P x1 r1 => ?_⟩
  obtain ⟨xs, s1⟩ := p
  simp only at r1 h1 x1
  split at h1
  · rename_i i j
    by_cases hj : (small62 i && small62 j) = true
    · rw [if_pos hj] at h1
      cases r1 with
      | cons r t =>
        cases t with
        | cons r' t =>
          cases t
          cases r with
          | imm r f =>
            cases r' with
            | imm r' f =>
              cases r
              cases r'
              have hj' := hj
              simp only [small62, Bool.and_eq_true, decide_eq_true_eq] at hj'
              exact ⟨i, j, rfl, ⟨hj'.1.1, hj'.1.2, hj'.2.1, hj'.2.2⟩, h1 _ H1 m1 A1 B1 [] x1.drop (relIt_of (l := false) iw_range trivial fun _ _ z => nomatch z)⟩
    · rw [if_neg hj] at h1; exact h1.elim
  · exact h1.elim
theorem si_rng1 {p : Pos} (hg : Gl X "range") (hm : X.mg "range" = none) (ha : SA Y X b fA [ea]) (hs : starEach [ea] X.env = [(false, eval ea X.env)]) : SI Y X b (itR true fA) tg (.Call (.Name "range" p) [ea] [] pos) :=
  PIw (pi_range1 hg hm ha hs) fun vs H Q h => rng1_conv h
theorem si_rng2 {p : Pos} (hg : Gl X "range") (hm : X.mg "range" = none) (ha : SA Y X b fA [ea, eb]) (hs : starEach [ea, eb] X.env = [(false, eval ea X.env), (false, eval eb X.env)]) (hs2 : starEach [eb] X.env = [(false, eval eb X.env)]) : SI Y X b (itR false fA) tg (.Call (.Name "range" p) [ea, eb] [] pos) :=
  PIw (pi_range2 hg hm ha hs hs2) fun vs H Q h => rng2_conv h
theorem datsOf_one {ob xs : List LV} {d : PyData} (e : datsOf ob xs = some [d]) : ∃ x, xs = [x] := by
  match xs, e with
  | [x], _ => exact ⟨x, rfl⟩
  | [], e => simp [datsOf] at e
  | x :: y :: r, e =>
    unfold datsOf at e
    split at e
    · rename_i d0 ds e1 e2
      cases e
      unfold datsOf at e2
      split at e2 <;> cases e2
    · cases e
theorem datsOf_two {ob xs : List LV} {d c : PyData} (e : datsOf ob xs = some [d, c]) : ∃ x y, xs = [x, y] := by
  match xs, e with
  | [], e => simp [datsOf] at e
  | x :: r, e =>
    unfold datsOf at e
    split at e
    · rename_i d0 ds e1 e2
      cases e
      obtain ⟨y, rfl⟩ := datsOf_one e2
      exact ⟨x, y, rfl⟩
    · cases e
theorem frz_of {H H1 : Hp} {R : Addr → Prop} {vs : L2.St} {s s1 : LS} {m A B m1 A1 B1 P : List Addr} {as : List Addr} {l : Bool} (x1 : Stp Y.K H R vs s m A B b H1 s1 m1 A1 B1 P) (f : ∀ a ∈ as, Fz R (A1 ++ B1 ++ P) a ∨ a ∈ P ∨ l = true) : l = false → ∀ a ∈ as, Fz R (A1 ++ B1 ++ []) a := fun e a z => by
  rw [List.append_nil]
  rcases f a z with w | w | w
  · exact ⟨fun u => w.1 (List.mem_append_left _ u), w.2⟩
  · exact ⟨fun u => x1.disj a u w, x1.nr a w⟩
  · rw [e] at w; cases w
/-- enumerate(..) of a list or a tuple -/
def itEA (fA : LS → Res (List LV × LS)) : ItF := fun s => (fA s).bind fun p => match datsOf p.2.ob p.1 with
  | some [d] => match itemsD d with
    | some ds => .ok (((enumD 0 ds).map (mkImm (lhs p.1)), lhs p.1), p.2)
    | none => .stuck
  | _ => .stuck
/-- zip(.., ..) of lists and tuples -/
def itZA (fA : LS → Res (List LV × LS)) : ItF := fun s => (fA s).bind fun p => match datsOf p.2.ob p.1 with
  | some [d, e] => match itemsD d, itemsD e with
    | some ds, some es => .ok (((zipD ds es).map (mkImm (lhs p.1)), lhs p.1), p.2)
    | _, _ => .stuck
  | _ => .stuck
theorem enumA_conv {vs : L2.St} {H : Hp} {Q : It → Hp → Prop} (h : tG Y b (relIt Y) (itEA fA) vs H Q) : iEnumB Y.K (tG Y b (relVs Y) fA) vs H Q := by
  obtain ⟨s, R, m, A, B, l, n, h⟩ := h
  refine ⟨s, R, m, A, B, l, n, h.split id fun p hp h1 us H1 m1 A1 B1 P x1 r1 => ?_⟩
  split at h1
  · rename_i d e1
    cases e2 : itemsD d with
    | none => rw [e2] at h1; exact h1.elim
    | some ds =>
      rw [e2] at h1
      obtain ⟨as, rd, f⟩ := datsOf_rd x1.obF r1 e1
      match us, as, rd, f with
      | _, _, .cons (v := v) r t, f =>
        cases t
        obtain ⟨t, a, us, as', rfl, rfl, g⟩ := r.itemsB e2
        exact ⟨a, us, t, rfl, g.sq, h1 _ H1 m1 A1 B1 [] x1.drop (relIt_of (iw_ee g) g (frz_of x1 fun c z => f c (List.mem_append_left _ z)))⟩
  · exact h1.elim
theorem zipA_conv {vs : L2.St} {H : Hp} {Q : It → Hp → Prop} (h : tG Y b (relIt Y) (itZA fA) vs H Q) : iZipB Y.K (tG Y b (relVs Y) fA) vs H Q := by
  obtain ⟨s, R, m, A, B, l, n, h⟩ := h
  refine ⟨s, R, m, A, B, l, n, h.split id fun p hp h1 us H1 m1 A1 B1 P x1 r1 => ?_⟩
  split at h1
  · rename_i d e e1
    cases e2 : itemsD d with
    | none => rw [e2] at h1; exact h1.elim
    | some ds =>
      cases e3 : itemsD e with
      | none => rw [e2, e3] at h1; exact h1.elim
      | some es =>
        rw [e2, e3] at h1
        obtain ⟨as, rd, f⟩ := datsOf_rd x1.obF r1 e1
        match us, as, rd, f with
        | _, _, .cons r t, f =>
          cases t with
          | cons r' t =>
            cases t
            obtain ⟨t, a, us, as', rfl, rfl, g⟩ := r.itemsB e2
            obtain ⟨t2, c, ws, cs, rfl, rfl, g'⟩ := r'.itemsB e3
            refine ⟨a, c, us, ws, t, t2, rfl, g.sq, g'.sq, h1 _ H1 m1 A1 B1 [] x1.drop (relIt_of (iw_zz g g') ⟨g, g'⟩ (frz_of x1 fun k z => f k ?_))⟩
            simpa using z
  · exact h1.elim
theorem itE_A {s : LS} : itE fA s = .stuck ∨ itE fA s = itEA fA s := by
  unfold itE itEA
  cases fA s with
  | ok p =>
    simp only [Res.bind]
    split
    · rename_i d e
      cases e2 : MP.listD d with
      | none => exact .inl rfl
      | some ds => right; simp only [e, listD_items e2]
    · exact .inl rfl
  | exc c ps s' => exact .inr rfl
  | stuck => exact .inl rfl
theorem itZ_A {s : LS} : itZ fA s = .stuck ∨ itZ fA s = itZA fA s := by
  unfold itZ itZA
  cases fA s with
  | ok p =>
    simp only [Res.bind]
    split
    · rename_i d e e1
      cases e2 : MP.listD d with
      | none => exact .inl rfl
      | some ds =>
        cases e3 : MP.listD e with
        | none => exact .inl rfl
        | some es => right; simp only [e1, listD_items e2, listD_items e3]
    · exact .inl rfl
  | exc c ps s' => exact .inr rfl
  | stuck => exact .inl rfl
theorem tG_le {α β : Type} {rel : Rel α β} {f g : LS → Res (α × LS)} {vs : L2.St} {H : Hp} {Q : β → Hp → Prop} (h : ∀ s, f s = .stuck ∨ f s = g s) (q : tG Y b rel f vs H Q) : tG Y b rel g vs H Q := by
  obtain ⟨s, R, m, A, B, l, n, q⟩ := q
  rcases h s with e | e
  · rw [e] at q; exact q.elim
  · rw [e] at q; exact ⟨s, R, m, A, B, l, n, q⟩
theorem si_enumA {p tpos : Pos} {elts : List Expr} {kk : Nat} (hK : X.K = Y.K) (hg : Gl X "enumerate") (hm : X.mg "enumerate" = none) (ha : SA Y X b fA [ea]) (hs : starEach [ea] X.env = [(false, eval ea X.env)]) : SI Y X b (itEA fA) (.Tuple elts kk tpos) (.Call (.Name "enumerate" p) [ea] [] pos) :=
  PIw (pi_enumB hg hm ha hs) fun vs H Q h => by rw [hK]; exact enumA_conv h
theorem si_zipA {p tpos : Pos} {elts : List Expr} {kk : Nat} (hK : X.K = Y.K) (hg : Gl X "zip") (hm : X.mg "zip" = none) (ha : SA Y X b fA [ea, eb]) (hs : starEach [ea, eb] X.env = (false, eval ea X.env) :: starEach [eb] X.env) (hpl : (backTo pos (starEach [eb] X.env)).any (·.1) = false) : SI Y X b (itZA fA) (.Tuple elts kk tpos) (.Call (.Name "zip" p) [ea, eb] [] pos) :=
  PIw (pi_zipB hg hm ha hs hpl) fun vs H Q h => by rw [hK]; exact zipA_conv h
theorem si_enum {p tpos : Pos} {elts : List Expr} {kk : Nat} (hK : X.K = Y.K) (hg : Gl X "enumerate") (hm : X.mg "enumerate" = none) (ha : SA Y X b fA [ea]) (hs : starEach [ea] X.env = [(false, eval ea X.env)]) : SI Y X b (itE fA) (.Tuple elts kk tpos) (.Call (.Name "enumerate" p) [ea] [] pos) :=
  PIw (si_enumA hK hg hm ha hs) fun _ _ _ h => tG_le (fun _ => itE_A) h
theorem si_zip {p tpos : Pos} {elts : List Expr} {kk : Nat} (hK : X.K = Y.K) (hg : Gl X "zip") (hm : X.mg "zip" = none) (ha : SA Y X b fA [ea, eb]) (hs : starEach [ea, eb] X.env = (false, eval ea X.env) :: starEach [eb] X.env) (hpl : (backTo pos (starEach [eb] X.env)).any (·.1) = false) : SI Y X b (itZ fA) (.Tuple elts kk tpos) (.Call (.Name "zip" p) [ea, eb] [] pos) :=
  PIw (si_zipA hK hg hm ha hs hpl) fun _ _ _ h => tG_le (fun _ => itZ_A) h
end
end MP
/-! MP.17: comprehensions -/
namespace MP
open PySem PySem.Spec PyProof.Rows L2

/-! ### slots forgotten and put back -/
theorem wipeL_at (sl : List (Option LV)) : ∀ (own : List Nat) (i : Nat), i < sl.length → (wipeL sl own)[i]? = if i ∈ own then some none else sl[i]?
  | [], i, _ => by simp [wipeL]
  | j :: js, i, h => by
    unfold wipeL
    by_cases e : j = i
    · subst e
      rw [List.getElem?_set_self (by rw [wipeL_len]; exact h)]
      simp
    · rw [List.getElem?_set_ne e, wipeL_at sl js i h]
      have : (i ∈ j :: js) ↔ i ∈ js := by simp [Ne.symm e]
      by_cases z : i ∈ js
      · simp [z]
      · simp [z, Ne.symm e]
theorem wipe_at (σ : L2.St) : ∀ (own : List Nat) (i : Nat), i < σ.length → (wipe σ own)[i]? = if i ∈ own then some none else σ[i]?
  | [], i, _ => by simp [wipe]
  | j :: js, i, h => by
    unfold wipe
    by_cases e : j = i
    · subst e
      rw [List.getElem?_set_self (by rw [wipe_length]; exact h)]
      simp
    · rw [List.getElem?_set_ne e, wipe_at σ js i h]
      by_cases z : i ∈ js
      · simp [z]
      · simp [z, Ne.symm e]
theorem backL_len (old sl : List (Option LV)) : ∀ own : List Nat, (backL old sl own).length = sl.length
  | [] => rfl
  | j :: js => by unfold backL; rw [List.length_set, backL_len old sl js]
theorem backL_at (old sl : List (Option LV)) : ∀ (own : List Nat) (i : Nat), i < sl.length → (backL old sl own)[i]? = if i ∈ own then some ((old[i]?).getD none) else sl[i]?
  | [], i, _ => by simp [backL]
  | j :: js, i, h => by
    unfold backL
    by_cases e : j = i
    · subst e
      rw [List.getElem?_set_self (by rw [backL_len]; exact h)]
      simp
    · rw [List.getElem?_set_ne e, backL_at old sl js i h]
      by_cases z : i ∈ js
      · simp [z]
      · simp [z, Ne.symm e]
theorem wipe_wipe {σ σ' : L2.St} {own : List Nat} (hl : σ'.length = σ.length) (h : ∀ i, i < σ.length → i ∉ own → σ'[i]? = σ[i]?) : wipe σ' own = wipe σ own := by
  apply List.ext_getElem?
  intro i
  by_cases hi : i < σ.length
  · rw [wipe_at _ _ _ hi, wipe_at _ _ _ (by omega)]
    by_cases z : i ∈ own
    · simp [z]
    · simp [z, h i hi z]
  · rw [List.getElem?_eq_none (by rw [wipe_length]; omega), List.getElem?_eq_none (by rw [wipe_length]; omega)]
theorem wipeL_wipe {sl sl' : List (Option LV)} {own : List Nat} (hl : sl'.length = sl.length) (h : ∀ i, i < sl.length → i ∉ own → sl'[i]? = sl[i]?) : wipeL sl' own = wipeL sl own := by
  apply List.ext_getElem?
  intro i
  by_cases hi : i < sl.length
  · rw [wipeL_at _ _ _ hi, wipeL_at _ _ _ (by omega)]
    by_cases z : i ∈ own
    · simp [z]
    · simp [z, h i hi z]
  · rw [List.getElem?_eq_none (by rw [wipeL_len]; omega), List.getElem?_eq_none (by rw [wipeL_len]; omega)]

section
variable {K : PySem.W.Frag} {H : Hp} {m : List Addr} {F : Addr → Prop}
theorem RpS.wipe1 {vs : L2.St} {sl : List (Option LV)} {A : List Addr} (r : RpS K H m F vs sl A) : ∀ i : Nat, ∃ A', RpS K H m F (vs.set i none) (sl.set i none) A' ∧ Sub A' A := by
  induction r with
  | nil => exact fun i => ⟨[], .nil, .refl _⟩
  | @no v vs xs P r ih =>
    intro i
    cases i with
    | zero => exact ⟨P, .no r, .refl _⟩
    | succ i =>
      obtain ⟨A', h1, h2⟩ := ih i
      exact ⟨A', .no h1, h2⟩
  | @so v vs x xs O P h r ih =>
    intro i
    cases i with
    | zero => exact ⟨P, .no r, O, List.Perm.refl _⟩
    | succ i =>
      obtain ⟨A', h1, D, h2⟩ := ih i
      refine ⟨O ++ A', .so h h1, D, (List.Perm.append_left O h2).trans ?_⟩
      rw [← List.append_assoc, ← List.append_assoc]
      exact List.Perm.append_right A' List.perm_append_comm
theorem RpS.wipes {vs : L2.St} {sl : List (Option LV)} {A : List Addr} (r : RpS K H m F vs sl A) : ∀ own : List Nat, ∃ A', RpS K H m F (wipe vs own) (wipeL sl own) A' ∧ Sub A' A
  | [] => ⟨A, r, .refl _⟩
  | i :: is => by
    obtain ⟨A1, h1, s1⟩ := r.wipes is
    obtain ⟨A2, h2, s2⟩ := h1.wipe1 i
    exact ⟨A2, h2, s2.trans s1⟩
theorem RpS.patch {vs : L2.St} {sl : List (Option LV)} {A : List Addr} (r : RpS K H m F vs sl A) : ∀ {vs' : L2.St} {sl' : List (Option LV)}, vs'.length = vs.length → sl'.length = sl.length →
    (∀ i, i < sl.length → (vs'[i]? = vs[i]? ∧ sl'[i]? = sl[i]?) ∨ (sl[i]? = some none ∧ (sl'[i]? = some none ∨ ∃ d w as, sl'[i]? = some (some (.imm d)) ∧ vs'[i]? = some (some w) ∧ RD K H w d as ∧ ∀ a ∈ as, F a))) → RpS K H m F vs' sl' A := by
  induction r with
  | nil =>
    intro vs' sl' h1 h2 _
    rw [List.length_eq_zero_iff.mp h1, List.length_eq_zero_iff.mp h2]
    exact .nil
  | @no v vs xs P r ih =>
    intro vs' sl' h1 h2 h
    match vs', sl', h1, h2 with
    | w :: ws, y :: ys, h1, h2 =>
      have t := ih (vs' := ws) (sl' := ys) (by simpa using h1) (by simpa using h2) fun i hi => by simpa using h (i + 1) (by simpa using hi)
      rcases h 0 (by simp) with ⟨e1, e2⟩ | ⟨_, e2 | ⟨d, u, as, e2, e3, e4, e5⟩⟩
      · simp at e1 e2; subst e1 e2; exact .no t
      · simp at e2; subst e2; exact .no t
      · simp at e2 e3; subst e2 e3; exact RpS.so (O := []) (.imm e4 e5) t
  | @so v vs x xs O P h0 r ih =>
    intro vs' sl' h1 h2 h
    match vs', sl', h1, h2 with
    | w :: ws, y :: ys, h1, h2 =>
      have t := ih (vs' := ws) (sl' := ys) (by simpa using h1) (by simpa using h2) fun i hi => by simpa using h (i + 1) (by simpa using hi)
      rcases h 0 (by simp) with ⟨e1, e2⟩ | ⟨e2, _⟩
      · simp at e1 e2; subst e1 e2; exact .so h0 t
      · simp at e2
end
theorem nlS_wipe {sl : List (Option LV)} (h : nlS sl = true) (own : List Nat) : nlS (wipeL sl own) = true := nl_wipe h own
theorem bindT_len2 : ∀ {t : Tg} {x : LV} {sl sl' : List (Option LV)}, bindT t x sl = some sl' → sl'.length = sl.length ∧ ∀ i, i ∉ tgS t → sl'[i]? = sl[i]? := by
  intro t
  suffices h : (∀ (x : LV) (sl sl' : List (Option LV)), bindT t x sl = some sl' → sl'.length = sl.length ∧ ∀ i, i ∉ tgS t → sl'[i]? = sl[i]?) ∧ ∀ (xs : List LV) (sl sl' : List (Option LV)), bindL t xs sl = some sl' → sl'.length = sl.length ∧ ∀ i, i ∉ tgS t → sl'[i]? = sl[i]? from fun {x sl sl'} e => h.1 x sl sl' e
  induction t with
  | nm j =>
    refine ⟨fun x sl sl' e => ?_, fun xs sl sl' e => ?_⟩
    · unfold bindT at e
      split at e
      · cases e
        refine ⟨List.length_set .., fun i hi => List.getElem?_set_ne fun z => hi (by simp [tgS, z])⟩
      · cases e
    · cases xs <;> (unfold bindL at e; cases e)
  | nil =>
    refine ⟨fun x sl sl' e => ?_, fun xs sl sl' e => ?_⟩
    · unfold bindT at e; cases e
    · cases xs with
      | nil => unfold bindL at e; cases e; exact ⟨rfl, fun _ _ => rfl⟩
      | cons x xs => unfold bindL at e; cases e
  | cons a b iha ihb =>
    refine ⟨fun x sl sl' e => ?_, fun xs sl sl' e => ?_⟩
    · unfold bindT at e; cases e
    · cases xs with
      | nil => unfold bindL at e; cases e
      | cons x xs =>
        unfold bindL at e
        split at e
        · rename_i sl1 e1
          obtain ⟨l1, g1⟩ := iha.1 _ _ _ e1
          obtain ⟨l2, g2⟩ := ihb.2 _ _ _ e
          refine ⟨l2.trans l1, fun i hi => ?_⟩
          simp only [tgS, List.mem_append, not_or] at hi
          exact (g2 i hi.2).trans (g1 i hi.1)
        · cases e
  | tp l ih =>
    refine ⟨fun x sl sl' e => ?_, fun xs sl sl' e => ?_⟩
    · unfold bindT at e
      split at e
      · rename_i xs ex
        obtain ⟨l1, g1⟩ := ih.2 _ _ _ e
        exact ⟨l1, fun i hi => g1 i (by simpa [tgS] using hi)⟩
      · cases e
    · cases xs <;> (unfold bindL at e; cases e)

theorem Rps.fz' {K : PySem.W.Frag} {H : Hp} {m : List Addr} {F F' : Addr → Prop} {v : List V} {x : List LV} {O : List Addr} (r : Rps K H m F v x O) (h : ∀ a, F a → F' a) : Rps K H m F' v x O :=
  r.pres (W := []) Pres.refl (fun b z => nomatch z) (fun _ _ e => e) (fun a f _ => h a f) (fun _ _ _ z => nomatch z) (fun _ _ z => nomatch z) (.inl rfl)
/-! ### what stands while a comprehension runs: D the new list, O what its items own -/
structure AS (K : PySem.W.Frag) (H1 : Hp) (R : Addr → Prop) (A1 B1 m1 : List Addr) (b : Bool) (D : Addr) (H : Hp) (σ : L2.St) (s : LS) (m A B O : List Addr) (us : List V) (acc : List LV) : Prop where
  li : LI K H (Rv R (D :: O)) σ s m A B
  nd : (D :: O).Nodup
  nr : ∀ a ∈ D :: O, ¬ R a
  hD : H D = some (.lst us)
  rp : Rps K H m (Fz R (A ++ B ++ (D :: O))) us acc O
  pr : Pres (A1 ++ B1) H1 H
  dm : ∀ a, H1 a ≠ none → H a ≠ none
  gr : ∀ a, a ∈ A ++ B ∨ a ∈ D :: O → a ∈ A1 ++ B1 ∨ H1 a = none
  mm : ∀ (l : Nat) (a : Addr), m1[l]? = some a → m[l]? = some a
  ef : b = false → Pres [] H1 H
  nl : nlL s = true
  na : nlAll acc = true
  d0 : H1 D = none

section
variable {K : PySem.W.Frag} {H1 H H' : Hp} {R : Addr → Prop} {A1 B1 m1 : List Addr} {b c : Bool} {D : Addr} {σ σ' : L2.St} {s s' : LS} {m A B O m' A' B' P : List Addr} {us : List V} {acc : List LV}
theorem AS.iter (x : AS K H1 R A1 B1 m1 b D H σ s m A B O us acc) (p : Pres [] H H') : AS K H1 R A1 B1 m1 b D H' σ s m A B O us acc where
  li := x.li.pres p (fun b z => nomatch z) (fun _ _ z => nomatch z) (fun a _ h _ => ⟨(fun z => nomatch z), h⟩) x.li.nr (fun a z => p.dom a (x.li.rs a z)) (.inl rfl)
  nd := x.nd
  nr := x.nr
  hD := p D _ x.hD fun z => nomatch z
  rp := x.rp.pres p (fun b z => nomatch z) (fun _ _ e => e) (fun a f _ => f) (fun _ _ _ z => nomatch z) (fun _ _ z => nomatch z) (.inl rfl)
  pr := x.pr.trans p fun a z => nomatch z
  dm := fun a n => p.dom a (x.dm a n)
  gr := x.gr
  mm := x.mm
  ef := fun h => (x.ef h).trans p fun a z => nomatch z
  nl := x.nl
  na := x.na
  d0 := x.d0
/-- other slots, fewer owned -/
theorem AS.slots (x : AS K H1 R A1 B1 m1 b D H σ s m A B O us acc) {sl' : List (Option LV)} (r : RpS K H m (Fz (Rv R (D :: O)) (A ++ B)) σ' sl' A') (hs : Sub A' A) (hn : nlS sl' = true) : AS K H1 R A1 B1 m1 b D H σ' ⟨sl', s.ob⟩ m A' B O us acc := by
  have F1 : ∀ a, Fz (Rv R (D :: O)) (A ++ B) a → Fz (Rv R (D :: O)) (A' ++ B) a := fun a f => ⟨fun w => f.1 ((List.mem_append.mp w).elim (fun w => List.mem_append_left _ (hs.mem w)) (List.mem_append_right _)), f.2⟩
  have ndA := List.nodup_append.mp x.li.nd
  refine ⟨⟨?_, x.li.ob.fz' F1, ?_, fun a z => ?_, x.li.rs⟩, x.nd, x.nr, x.hD, ?_, x.pr, x.dm, fun a z => ?_, x.mm, x.ef, ?_, x.na, x.d0⟩
  · exact r.pres (W := []) Pres.refl (fun b z => nomatch z) (fun _ _ e => e) (fun a f _ => F1 a f) (fun _ _ _ z => nomatch z) (fun _ _ z => nomatch z) (.inl rfl)
  · exact List.nodup_append.mpr ⟨hs.nodup ndA.1, ndA.2.1, fun a h1 c h2 e => ndA.2.2 a (hs.mem h1) c h2 e⟩
  · exact x.li.nr a ((List.mem_append.mp z).elim (fun w => List.mem_append_left _ (hs.mem w)) (List.mem_append_right _))
  · refine x.rp.fz' fun a f => ⟨fun w => f.1 ?_, f.2⟩
    rcases List.mem_append.mp w with w | w
    · exact List.mem_append_left _ ((List.mem_append.mp w).elim (fun w => List.mem_append_left _ (hs.mem w)) (List.mem_append_right _))
    · exact List.mem_append_right _ w
  · exact x.gr a (z.imp (fun z => (List.mem_append.mp z).elim (fun w => List.mem_append_left _ (hs.mem w)) (List.mem_append_right _)) id)
  · have := x.nl
    simp only [nlL, Bool.and_eq_true] at this ⊢
    exact ⟨hn, this.2⟩
theorem AS.up (x : AS K H1 R A1 B1 m1 b D H σ s m A B O us acc) (a : Addr) (h : a ∈ A ++ B ∨ H a = none) : a ∈ A1 ++ B1 ∨ H1 a = none := by
  rcases h with h | h
  · exact x.gr a (.inl h)
  · cases e : H1 a with
    | none => exact .inr rfl
    | some o => exact absurd h (x.dm a (by rw [e]; exact fun z => nomatch z))
/-- a step whose value owns P, and the list is written: us', acc' with O' -/
theorem AS.step {O' : List Addr} {us' : List V} {acc' : List LV} (x : AS K H1 R A1 B1 m1 b D H σ s m A B O us acc) (y : Stp K H (Rv R (D :: O)) σ s m A B c H' s' m' A' B' P) (hc : c = true → b = true)
    (r : (Rps K H' m' (Fz R (A' ++ B' ++ ((D :: O) ++ P))) us acc O → Rps K H' m' (Fz R (A' ++ B' ++ ((D :: O) ++ P))) us' acc' O')) (ho : O' = O ++ P) (na : nlAll acc' = true) :
    AS K H1 R A1 B1 m1 b D (upd H' D (.lst us')) σ s' m' A' B' O' us' acc' := by
  subst ho
  have dA : D ∉ A' ++ B' := fun z => y.li.nr D z (.inl (.inr List.mem_cons_self))
  have RR : Rv (Rv R (D :: O)) P = Rv R (D :: (O ++ P)) := Rv_app
  have pu : Pres [D] H' (upd H' D (.lst us')) := Pres.upd
  have hD' : H' D = some (.lst us) := y.pr D _ x.hD fun z => x.li.nr D z (.inr List.mem_cons_self)
  have wD : WM [D] H' := fun b z => by rw [List.mem_singleton.mp z]; exact .inl ⟨_, hD'⟩
  have dm' : ∀ a, H' a ≠ none → (upd H' D (.lst us')) a ≠ none := fun a n => by
    by_cases e : a = D
    · rw [e, upd_same]; exact fun z => nomatch z
    · rw [upd_ne e]; exact n
  have nP : ∀ a ∈ P, a ∉ D :: O := fun a z w => y.nr a z (.inr w)
  have ndO : (D :: (O ++ P)).Nodup := by
    have : ((D :: O) ++ P).Nodup := List.nodup_append.mpr ⟨x.nd, y.nd, fun a h1 c h2 e => nP c h2 (e ▸ h1)⟩
    exact this
  have nDO : D ∉ O ++ P := (List.nodup_cons.mp ndO).1
  have hgr : ∀ a, a ∈ A' ++ B' ∨ a ∈ D :: (O ++ P) → a ∈ A1 ++ B1 ∨ H1 a = none := fun a z => by
    rcases z with z | z
    · exact x.up a (y.gr a (.inl z))
    · rcases List.mem_append.mp (show a ∈ (D :: O) ++ P from z) with z | z
      · exact x.gr a (.inr z)
      · exact x.up a (y.gr a (.inr z))
  have rp' := r (by
    have nls : LV.nls acc = true := nls_all x.na
    refine x.rp.pres y.pr x.li.own y.mm (fun a f n => ⟨fun w => ?_, f.2⟩) (fun a f _ w => f.1 (List.mem_append_left _ w)) (fun a z w => x.li.nr a w (.inr (List.mem_cons_of_mem _ z))) (.inr nls)
    rcases List.mem_append.mp w with w | w
    · rcases y.gr a (.inl w) with w | w
      · exact f.1 (List.mem_append_left _ w)
      · exact n w
    · rcases List.mem_append.mp w with w | w
      · exact f.1 (List.mem_append_right _ w)
      · rcases y.gr a (.inr w) with w | w
        · exact f.1 (List.mem_append_left _ w)
        · exact n w)
  refine ⟨?_, ndO, fun a z => ?_, upd_same, ?_, ?_, fun a n => dm' a (y.dm a (x.dm a n)), hgr, fun l a e => y.mm l a (x.mm l a e), fun h => ?_, y.nl x.nl, na, x.d0⟩
  · rw [← RR]
    exact y.li.pres pu wD (fun a z w => dA (List.mem_singleton.mp w ▸ z)) (fun a _ h _ => ⟨fun w => h (.inl (.inr (by rw [List.mem_singleton.mp w]; exact List.mem_cons_self))), h⟩) y.li.nr (fun a z => dm' a (y.li.rs a z)) (.inr (y.nl x.nl))
  · rcases List.mem_append.mp (show a ∈ (D :: O) ++ P from z) with z | z
    · exact x.nr a z
    · exact fun w => y.nr a z (.inl w)
  · exact rp'.pres pu wD (fun _ _ e => e) (fun a f _ => f) (fun a f _ w => f.1 (by rw [List.mem_singleton.mp w]; exact List.mem_append_right _ List.mem_cons_self)) (fun a z w => nDO (List.mem_singleton.mp w ▸ z)) (.inr (nls_all na))
  · refine (x.pr.trans y.pr fun a z => x.gr a (.inl z)).trans pu fun a z => ?_
    rw [List.mem_singleton.mp z]
    exact .inr x.d0
  · have hc' : c = false := by
      cases e : c with
      | false => rfl
      | true => rw [hc e] at h; cases h
    exact ((x.ef h).trans (y.ef hc').2 fun a z => nomatch z).trans pu fun a z => .inr (by rw [List.mem_singleton.mp z]; exact x.d0)
end
end MP
/-! MP.18: comprehensions, turn by turn -/
namespace MP
open PySem PySem.Spec PyProof.Rows L2

abbrev Yx.b (Y : Yx) : Yx := ⟨Y.K, fun _ _ _ _ => False, Y.XR, Y.mono⟩

section
variable {Y : Yx} {H1 H H' : Hp} {R : Addr → Prop} {A1 B1 m1 : List Addr} {b c : Bool} {D : Addr} {σ σ' : L2.St} {s s' : LS} {m A B O m' A' B' P : List Addr} {us : List V} {acc : List LV}

/-- what is walked stays -/
structure Wk (K : PySem.W.Frag) (R : Addr → Prop) (D : Addr) (l bw : Bool) (as : List Addr) (G : Hp → Prop) (H : Hp) (A B O : List Addr) : Prop where
  g : G H
  fr : l = false → ∀ a ∈ as, Fz (Rv R (D :: O)) (A ++ B) a
  nw : l = true → bw = false
  nD : D ∉ as
theorem Wk.step {K : PySem.W.Frag} {J : It} {l bw : Bool} {ds : List PyData} {as : List Addr} {G : Hp → Prop} {xs : List V} (iw : IW K J ds as G) (w : Wk K R D l bw as G H A B O) (y : Stp K H (Rv R (D :: O)) σ s m A B c H' s' m' A' B' P) (hl : WM (A ++ B) H) (hc : c = true → bw = true) (hD : H' D = some (.lst us)) {u : List V} :
    Wk K R D l bw as G (upd H' D (.lst u)) A' B' (O ++ P) := by
  have ex := iw.ex w.g
  have g' : G H' := by
    cases e : l with
    | false => exact iw.keep w.g y.pr hl fun a z q => (w.fr e a z).1 q
    | true =>
      have hb := w.nw e
      have hc' : c = false := by
        cases q : c with
        | false => rfl
        | true => rw [hc q] at hb; cases hb
      exact iw.keep w.g (y.ef hc').2 (fun _ z => nomatch z) fun a z q => nomatch q
  refine ⟨iw.keep g' (Pres.upd (p := D)) (fun b z => by rw [List.mem_singleton.mp z]; exact .inl ⟨_, hD⟩) (fun a z q => w.nD (List.mem_singleton.mp q ▸ z)), fun e a z => ⟨fun q => ?_, fun q => ?_⟩, w.nw, w.nD⟩
  · rcases y.gr a (.inl q) with q | q
    · exact (w.fr e a z).1 q
    · exact ex a z q
  · have f := w.fr e a z
    rcases q with q | q
    · exact f.2 (.inl q)
    · rcases List.mem_append.mp (show a ∈ (D :: O) ++ P from q) with q | q
      · exact f.2 (.inr q)
      · rcases y.gr a (.inr q) with q | q
        · exact f.1 q
        · exact ex a z q
theorem Wk.slots {K : PySem.W.Frag} {l bw : Bool} {as : List Addr} {G : Hp → Prop} (w : Wk K R D l bw as G H A B O) (hs : Sub A' A) : Wk K R D l bw as G H A' B O :=
  ⟨w.g, fun e a z => ⟨fun q => (w.fr e a z).1 ((List.mem_append.mp q).elim (fun q => List.mem_append_left _ (hs.mem q)) (List.mem_append_right _)), (w.fr e a z).2⟩, w.nw, w.nD⟩

abbrev ZP := Hp → List Addr → List Addr → List Addr → Prop
/-- what is said of the heap and the own things, and stays -/
structure Zs (K : PySem.W.Frag) (R : Addr → Prop) (D : Addr) (bw : Bool) (Z : ZP) : Prop where
  iter : ∀ {H H' : Hp} {A B O : List Addr}, Z H A B O → Pres [] H H' → Z H' A B O
  slots : ∀ {H : Hp} {A A' B O : List Addr}, Z H A B O → Sub A' A → Z H A' B O
  step : ∀ {H H' : Hp} {σ : L2.St} {s s' : LS} {m A B O m' A' B' P : List Addr} {c : Bool} {us u : List V}, Z H A B O → Stp K H (Rv R (D :: O)) σ s m A B c H' s' m' A' B' P → WM (A ++ B) H → (c = true → bw = true) → H' D = some (.lst us) → Z (upd H' D (.lst u)) A' B' (O ++ P)
theorem Wk.zs {K : PySem.W.Frag} {J : It} {l bw : Bool} {ds : List PyData} {as : List Addr} {G : Hp → Prop} (iw : IW K J ds as G) : Zs K R D bw (Wk K R D l bw as G) where
  iter := fun w p => ⟨iw.keep w.g p (fun _ z => nomatch z) (fun _ _ z => nomatch z), w.fr, w.nw, w.nD⟩
  slots := fun w hs => w.slots hs
  step := fun w y hl hc hD => w.step (xs := []) iw y hl hc hD
theorem Zs.and {K : PySem.W.Frag} {bw : Bool} {Z Z' : ZP} (h : Zs K R D bw Z) (h' : Zs K R D bw Z') : Zs K R D bw (fun H A B O => Z H A B O ∧ Z' H A B O) where
  iter := fun w p => ⟨h.iter w.1 p, h'.iter w.2 p⟩
  slots := fun w hs => ⟨h.slots w.1 hs, h'.slots w.2 hs⟩
  step := fun w y hl hc hD => ⟨h.step w.1 y hl hc hD, h'.step w.2 y hl hc hD⟩
theorem Zs.weak {K : PySem.W.Frag} {bw bw' : Bool} {Z : ZP} (h : Zs K R D bw Z) (hw : bw' = true → bw = true) : Zs K R D bw' Z where
  iter := h.iter
  slots := h.slots
  step := fun w y hl hc hD => h.step w y hl (fun e => hw (hc e)) hD

def LP (K : PySem.W.Frag) (H1 : Hp) (R : Addr → Prop) (A1 B1 m1 : List Addr) (b : Bool) (D : Addr) (own : List Nat) (σw : L2.St) (w0 : LS) (Z : ZP) (t : Tg) (step : LS → Res (List LV × LS)) (xs : List LV) (tot : List LV × LS) (i : Nat) (H : Hp) : Prop :=
  ∃ s m A B O us acc rest, AS K H1 R A1 B1 m1 b D H σw ⟨wipeL s.sl own, s.ob⟩ m A B O us acc ∧ Z H A B O ∧ (b = false → (⟨wipeL s.sl own, s.ob⟩ : LS) = w0) ∧
    compL own t step (xs.drop i) s = .ok (rest, tot.2) ∧ tot.1 = acc ++ rest

/-- an item comes and is bound -/
theorem lp_bind {own : List Nat} {σ0 : L2.St} {w0 : LS} {l bw : Bool} {ds : List PyData} {as : List Addr} {Z : ZP} {t : Tg} {step : LS → Res (List LV × LS)} {tot : List LV × LS} {i : Nat} {x : V} {Q : L2.St → Hp → Prop}
    (hZ : Zs Y.K R D bw Z) (hF : ∀ H A B O, Z H A B O → l = false → ∀ a ∈ as, Fz (Rv R (D :: O)) (A ++ B) a) (ht : ∀ i ∈ tgS t, i ∈ own) (hnl : nlAll (ds.map (mkImm l)) = true) (hi : i < ds.length) (h : LP Y.K H1 R A1 B1 m1 b D own (wipe σ0 own) w0 Z t step (ds.map (mkImm l)) tot i H)
    (p : Pres [] H H') (hx : ∃ d bs, ds[i]? = some d ∧ RD Y.K H' x d bs ∧ ∀ a ∈ bs, a ∈ as)
    (k : ∀ σ2 s2 m A B O us acc q rest, wipe σ2 own = wipe σ0 own → (b = false → (⟨wipeL s2.sl own, s2.ob⟩ : LS) = w0) → AS Y.K H1 R A1 B1 m1 b D H' σ2 s2 m A B O us acc → Z H' A B O → step s2 = .ok q → compL own t step ((ds.map (mkImm l)).drop (i + 1)) q.2 = .ok (rest, tot.2) → tot.1 = acc ++ (q.1 ++ rest) → Q σ2 H') :
    tgT Y.K t x (wipe σ0 own) H' Q := by
  obtain ⟨s, m, A, B, O, us, acc, rest, a0, w, he, hc, htot⟩ := h
  obtain ⟨d, bs, e2, rd, hb⟩ := hx
  have hx : (ds.map (mkImm l)).drop i = mkImm l d :: (ds.map (mkImm l)).drop (i + 1) := by
    rw [List.drop_eq_getElem_cons (by rw [List.length_map]; exact hi)]
    congr 1
    have : (ds.map (mkImm l))[i]? = some (mkImm l d) := by rw [List.getElem?_map, e2]; rfl
    exact Option.some.inj (by rw [← this, List.getElem?_eq_getElem])
  have ndn : (mkImm l d).nl = true := by
    have := List.all_eq_true.mp hnl (mkImm l d) (List.mem_map.mpr ⟨d, List.mem_of_getElem? e2, rfl⟩)
    exact this
  rw [hx, compL] at hc
  cases eb : bindT t (mkImm l d) (wipeL s.sl own) with
  | none => rw [eb] at hc; cases hc
  | some sl' =>
    rw [eb] at hc
    simp only at hc
    cases es : step ⟨sl', s.ob⟩ with
    | exc c ps s' => rw [es] at hc; cases hc
    | stuck => rw [es] at hc; cases hc
    | ok q =>
      rw [es] at hc
      simp only [Res.bind] at hc
      cases ec : compL own t step ((ds.map (mkImm l)).drop (i + 1)) q.2 with
      | exc c ps s' => rw [ec] at hc; cases hc
      | stuck => rw [ec] at hc; cases hc
      | ok r =>
        rw [ec] at hc
        simp only at hc
        obtain ⟨h1, h2⟩ := Prod.mk.inj (Res.ok.inj hc)
        subst h1
        have a1 := a0.iter p
        have g1 := hZ.iter w p
        have rx : Rp Y.K H' m (Fz (Rv R (D :: O)) (A ++ B)) x (mkImm l d) [] := mkImm_rp rd fun e a z => hF _ _ _ _ w e a (hb a z)
        have wl : (wipeL s.sl own).length = s.sl.length := wipeL_len
        have hlen := a1.li.sl.length
        simp only at hlen
        have bl := bindT_len2 eb
        refine bindT_rp (keep := (List.range s.sl.length).filter fun i => !own.contains i) rx a1.li.sl eb (fun i hi hk => ?_) fun σ2 A' r' sb hk => ?_
        · have := (List.mem_filter.mp hk).2
          simp [ht i hi] at this
        · have l2 := r'.length
          have e1 : wipe σ2 own = wipe (wipe σ0 own) own := wipe_wipe (by rw [l2, bl.1, ← hlen]) fun j hj hn => by
            refine hk j (List.mem_filter.mpr ⟨List.mem_range.mpr (by rw [← wl, ← hlen]; exact hj), by simp [hn]⟩)
          have e2 : wipe (wipe σ0 own) own = wipe σ0 own := wipe_wipe (wipe_length _ _) fun j hj hn => by rw [wipe_at _ _ _ hj, if_neg hn]
          have e3 : wipeL sl' own = wipeL s.sl own := by
            have h1 : wipeL sl' own = wipeL (wipeL s.sl own) own := wipeL_wipe bl.1 fun j hj hn => bl.2 j fun z => hn (ht j z)
            have h2 : wipeL (wipeL s.sl own) own = wipeL s.sl own := wipeL_wipe wl fun j hj hn => by rw [wipeL_at _ _ _ hj, if_neg hn]
            exact h1.trans h2
          have sb' : Sub A' A := by simpa using sb
          refine k σ2 ⟨sl', s.ob⟩ m A' B O us acc q r.1 (e1.trans e2) (fun e => by rw [e3]; exact he e) (a1.slots r' sb' (bindT_nl eb ndn (nlL_sl a1.nl))) (hZ.slots g1 sb') es ?_ htot
          rw [ec, ← h2]
/-- the names of the block forgotten again -/
theorem AS.wiped {own : List Nat} {σ2 σw : L2.St} {s2 : LS} (x : AS Y.K H1 R A1 B1 m1 b D H σ2 s2 m A B O us acc) (e : wipe σ2 own = σw) : ∃ A', Sub A' A ∧ AS Y.K H1 R A1 B1 m1 b D H σw ⟨wipeL s2.sl own, s2.ob⟩ m A' B O us acc := by
  obtain ⟨A', r, hs⟩ := x.li.sl.wipes own
  rw [e] at r
  exact ⟨A', hs, x.slots r hs (nlS_wipe (nlL_sl x.nl) own)⟩

theorem upd_self {H : Hp} {D : Addr} {o : HO} (h : H D = some o) : upd H D o = H := by
  funext a
  by_cases e : a = D
  · rw [e, upd_same, h]
  · rw [upd_ne e]

/-- behind the binding: test, item, the next turn -/
theorem lc_turn {own : List Nat} {σ2 σw : L2.St} {s2 w0 : LS} {bw bt be : Bool} {xs : List LV} {Z : ZP} {t : Tg} {ft : LS → Res (Bool × LS)} {fe : EvF} {tot q : List LV × LS} {i : Nat} {rest : List LV}
    (hZ : Zs Y.K R D bw Z) (hbt : bt = true → bw = true) (hbe : be = true → bw = true) (hbw : bw = true → b = true) (hz : tot.1.length ≤ sizeLine) (hna : nlAll tot.1 = true)
    (ew : wipe σ2 own = σw) (e0 : b = false → (⟨wipeL s2.sl own, s2.ob⟩ : LS) = w0) (x : AS Y.K H1 R A1 B1 m1 b D H σ2 s2 m A B O us acc) (w : Z H A B O) (es : lcStep ft fe s2 = .ok q)
    (ec : compL own t (lcStep ft fe) (xs.drop (i + 1)) q.2 = .ok (rest, tot.2)) (et : tot.1 = acc ++ (q.1 ++ rest)) :
    tG Y.b bt relB ft σ2 H fun c H3 => if c = true then tG Y.b be (relV Y.b) fe σ2 H3 fun y H4 => ∃ us', H4 D = some (.lst us') ∧ us'.length < sizeLine ∧ LP Y.K H1 R A1 B1 m1 b D own σw w0 Z t (lcStep ft fe) xs tot (i + 1) (upd H4 D (.lst (us' ++ [y])))
      else LP Y.K H1 R A1 B1 m1 b D own σw w0 Z t (lcStep ft fe) xs tot (i + 1) H3 := by
  refine ⟨s2, Rv R (D :: O), m, A, B, x.li, fun _ => x.nl, ?_⟩
  unfold lcStep at es
  cases e1 : ft s2 with
  | exc c ps s' => rw [e1] at es; cases es
  | stuck => rw [e1] at es; cases es
  | ok tt =>
    rw [e1] at es
    simp only [Res.bind] at es
    intro c H3 m3 A3 B3 P y3 hrel
    obtain ⟨rfl, rfl⟩ := hrel
    have hD3 : H3 D = some (.lst us) := y3.pr D _ x.hD fun z => x.li.nr D z (.inr List.mem_cons_self)
    have x3 := x.step y3 (fun h => hbw (hbt h)) (us' := us) (acc' := acc) (O' := O) (fun r => by simpa using r) (by simp) x.na
    have w3 := hZ.step w y3 x.li.own hbt hD3 (u := us)
    rw [upd_self hD3, List.append_nil] at w3
    rw [upd_self hD3] at x3
    have ef3 : b = false → tt.2 = s2 := fun h => (y3.ef (by
      cases e : bt with
      | false => rfl
      | true => rw [hbw (hbt e)] at h; cases h)).1
    cases hc : tt.1 with
    | false =>
      rw [hc] at es
      simp only [Bool.false_eq_true, if_false] at es ⊢
      cases es
      obtain ⟨A', hs, x4⟩ := x3.wiped ew
      exact ⟨tt.2, m3, A', B3, O, us, acc, rest, x4, hZ.slots w3 hs, fun h => by rw [ef3 h]; exact e0 h, ec, by simpa using et⟩
    | true =>
      rw [hc] at es
      simp only [if_true] at es ⊢
      cases e2 : fe tt.2 with
      | exc c ps s' => rw [e2] at es; cases es
      | stuck => rw [e2] at es; cases es
      | ok e =>
        rw [e2] at es
        simp only at es
        cases es
        refine ⟨tt.2, Rv R (D :: O), m3, A3, B3, x3.li, fun _ => x3.nl, ?_⟩
        rw [e2]
        intro v H4 m4 A4 B4 P y4 rv
        have hD4 : H4 D = some (.lst us) := y4.pr D _ x3.hD fun z => x3.li.nr D z (.inr List.mem_cons_self)
        have hle : us.length = acc.length := x3.rp.length
        have hlt : us.length < sizeLine := by
          rw [et] at hz
          simp only [List.length_append, List.length_cons, List.length_nil] at hz
          omega
        have nle : e.1.nl = true ∧ nlAll acc = true := by
          have h1 := List.all_eq_true.mp hna
          rw [et] at h1
          exact ⟨h1 e.1 (by simp), x3.na⟩
        refine ⟨us, hD4, hlt, ?_⟩
        have x4 := x3.step y4 (fun h => hbw (hbe h)) (us' := us ++ [v]) (acc' := acc ++ [e.1]) (O' := O ++ P) (fun r => ?_) rfl (by
          simp only [nlAll, List.all_append, List.all_cons, List.all_nil, Bool.and_true, Bool.and_eq_true]
          exact ⟨nle.2, nle.1⟩)
        · have w4 := hZ.step w3 y4 x3.li.own hbe hD4 (u := us ++ [v])
          obtain ⟨A', hs, x5⟩ := x4.wiped ew
          have ef4 : b = false → e.2 = tt.2 := fun h => (y4.ef (by
            cases e : be with
            | false => rfl
            | true => rw [hbw (hbe e)] at h; cases h)).1
          exact ⟨e.2, m4, A', B4, O ++ P, us ++ [v], acc ++ [e.1], rest, x5, hZ.slots w4 hs, fun h => by rw [ef4 h, ef3 h]; exact e0 h, ec, by simpa using et⟩
        · have app : ∀ {us : List V} {xs : List LV} {O : List Addr} {F : Addr → Prop}, Rps Y.K H4 m4 F us xs O → Rp Y.K H4 m4 F v e.1 P → Rps Y.K H4 m4 F (us ++ [v]) (xs ++ [e.1]) (O ++ P) := by
            intro us xs O F r q
            induction us generalizing xs O with
            | nil => cases r; have := Rps.cons q .nil; simpa using this
            | cons u us ih =>
              cases r with
              | cons r t =>
                have := Rps.cons r (ih t)
                rw [← List.append_assoc] at this
                exact this
          refine app r (Rp.fz (Y := Y) rv fun a f => ⟨fun z => ?_, fun z => f.2 (.inl z)⟩)
          rcases List.mem_append.mp z with z | z
          · exact f.1 (List.mem_append_left _ z)
          · rcases List.mem_append.mp z with z | z
            · exact f.2 (.inr z)
            · exact f.1 (List.mem_append_right _ z)

/-- the names' old contents put back -/
theorem unwipe {own : List Nat} {sl0 sl : List (Option LV)} {vs : L2.St} {F0 F : Addr → Prop} {H0 : Hp} {m0 A0 : List Addr} (r0 : RpS Y.K H0 m0 F0 vs sl0 A0) (p : ∀ d w as, RD Y.K H0 w d as → (∀ a ∈ as, F0 a) → RD Y.K H w d as ∧ ∀ a ∈ as, F a)
    (hc : cleanL sl0 own = true) (r : RpS Y.K H m F (wipe vs own) (wipeL sl own) A) : RpS Y.K H m F vs (backL sl0 sl own) A := by
  have l0 := r0.length
  have l1 := r.length
  rw [wipe_length, wipeL_len] at l1
  refine r.patch (by rw [wipe_length]) (by rw [backL_len, wipeL_len]) fun i hi => ?_
  rw [wipeL_len] at hi
  rw [wipe_at _ _ _ (by omega), wipeL_at _ _ _ hi, backL_at _ _ _ _ hi]
  by_cases z : i ∈ own
  · right
    simp only [z, if_true, true_and]
    have q := List.all_eq_true.mp hc i z
    split at q
    · rename_i e; left; rw [e]; rfl
    · rename_i d e
      obtain ⟨w, P, e1, r1, _⟩ := r0.get e
      cases r1 with
      | imm rd f =>
        obtain ⟨rd', f'⟩ := p _ _ _ rd f
        exact .inr ⟨d, w, _, by rw [e]; rfl, e1, rd', f'⟩
    · cases q
  · left; simp [z]
theorem backL_same {own : List Nat} {sl0 sl : List (Option LV)} (h : wipeL sl own = wipeL sl0 own) : backL sl0 sl own = sl0 := by
  have hl : sl.length = sl0.length := by
    have := congrArg List.length h
    simpa [wipeL_len] using this
  apply List.ext_getElem?
  intro i
  by_cases hi : i < sl.length
  · rw [backL_at _ _ _ _ hi]
    by_cases z : i ∈ own
    · simp only [z, if_true]
      rw [List.getElem?_eq_getElem (by omega)]; rfl
    · simp only [z, if_false]
      have this : (wipeL sl own)[i]? = (wipeL sl0 own)[i]? := by rw [h]
      rwa [wipeL_at _ _ _ hi, wipeL_at _ _ _ (by omega), if_neg z, if_neg z] at this
  · rw [List.getElem?_eq_none (by rw [backL_len]; omega), List.getElem?_eq_none (by omega)]
end
end MP
/-! MP.19: comprehensions, whole -/
namespace MP
open PySem PySem.Spec PyProof.Rows L2

theorem walk_go {J : It} {n : Nat} {G : Hp → Prop} {Y : Nat → Hp → V → Hp → Prop} (w : Walk J n G Y) {g : TG} {tt : TT} {te : TE} {vs : List Nat} {σ : L2.St} {H0 : Hp} {D : Addr} {Qd : Hp → Prop} (Pv : Nat → Hp → Prop) (h0 : Pv 0 H0) (hG : ∀ i H, i ≤ n → Pv i H → G H)
    (hs : ∀ i x H H', i < n → Pv i H → Y i H x H' → g x (wipe σ vs) H' fun σ2 H2 => wipe σ2 vs = wipe σ vs ∧ tt σ2 H2 fun b H3 =>
      if b = true then te σ2 H3 fun y H4 => ∃ acc, H4 D = some (.lst acc) ∧ acc.length < sizeLine ∧ Pv (i + 1) (upd H4 D (.lst (acc ++ [y]))) else Pv (i + 1) H3) (hd : ∀ H, Pv n H → Qd H) :
    ∃ W : Nat → Nat → Hp → Prop, (∃ m, W 0 m H0) ∧ ∀ i m H, W i m H →
      (J.stop i H ∧ Qd H) ∨ (J.go i H ∧ ∃ Nx : Hp → Prop, (∀ H', Nx H' → ∃ m', m' < m ∧ W (i + 1) m' H') ∧ ∀ x H', J.yld i H x H' → g x (wipe σ vs) H' fun σ2 H2 => wipe σ2 vs = wipe σ vs ∧ tt σ2 H2 fun b H3 =>
        if b = true then te σ2 H3 fun y H4 => ∃ acc, H4 D = some (.lst acc) ∧ acc.length < sizeLine ∧ Nx (upd H4 D (.lst (acc ++ [y]))) else Nx H3) := by
  refine ⟨fun i m H => m = n - i ∧ i ≤ n ∧ Pv i H, ⟨n, by simp, Nat.zero_le _, h0⟩, ?_⟩
  rintro i m H ⟨rfl, hi, p⟩
  have q := hG i H hi p
  by_cases hlt : i < n
  · refine .inr ⟨w.goes i H hlt q, Pv (i + 1), fun H' p' => ⟨n - (i + 1), by omega, rfl, hlt, p'⟩, fun x H' y => hs i x H H' hlt p (w.yields i H x H' hlt q y)⟩
  · have e : i = n := by omega
    subst e
    exact .inl ⟨w.stops H q, hd H p⟩

section
variable {Y : Yx} {X : Cx} {b : Bool}
/-- the first step: nothing in the new list -/
theorem AS.start {H1 : Hp} {R : Addr → Prop} {vs : L2.St} {s : LS} {m1 A1 B1 : List Addr} {b : Bool} {D : Addr} {own : List Nat} (l : LI Y.K H1 R vs s m1 A1 B1) (n : nlL s = true) (hD : H1 D = none) :
    ∃ A', Sub A' A1 ∧ AS Y.K H1 R A1 B1 m1 b D (upd H1 D (.lst [])) (wipe vs own) ⟨wipeL s.sl own, s.ob⟩ m1 A' B1 [] [] [] := by
  obtain ⟨A', r, hs⟩ := l.sl.wipes own
  have pn : Pres [] H1 (upd H1 D (.lst [])) := Pres.new hD
  have ndA := List.nodup_append.mp l.nd
  have inA : ∀ a, a ∈ A' ++ B1 → a ∈ A1 ++ B1 := fun a z => (List.mem_append.mp z).elim (fun w => List.mem_append_left _ (hs.mem w)) (List.mem_append_right _)
  have F1 : ∀ a, Fz R (A1 ++ B1) a → H1 a ≠ none → Fz (Rv R [D]) (A' ++ B1) a := fun a f n => ⟨fun w => f.1 (inA a w), fun w => w.elim f.2 fun w => n (by rw [List.mem_singleton.mp w]; exact hD)⟩
  refine ⟨A', hs, ⟨⟨?_, ?_, ?_, fun a z w => ?_, fun a z => ?_⟩, List.nodup_cons.mpr ⟨List.not_mem_nil, List.nodup_nil⟩, fun a z w => ?_, upd_same, .nil, fun a o e n => pn a o e (fun z => nomatch z), pn.dom, fun a z => ?_, fun _ _ e => e, fun _ => pn, ?_, rfl, hD⟩⟩
  · exact r.pres pn (fun b z => nomatch z) (fun _ _ e => e) F1 (fun _ _ _ z => nomatch z) (fun _ _ z => nomatch z) (.inl rfl)
  · exact l.ob.pres pn (fun b z => nomatch z) (fun _ _ e => e) F1 (fun _ _ _ z => nomatch z) (fun _ _ z => nomatch z) (.inl rfl)
  · exact List.nodup_append.mpr ⟨hs.nodup ndA.1, ndA.2.1, fun a h1 c h2 e => ndA.2.2 a (hs.mem h1) c h2 e⟩
  · rcases w with w | w
    · exact l.nr a (inA a z) w
    · exact l.exists a (inA a z) (by rw [List.mem_singleton.mp w]; exact hD)
  · rcases z with z | z
    · exact pn.dom a (l.rs a z)
    · rw [List.mem_singleton.mp z, upd_same]; exact fun z => nomatch z
  · exact l.rs a w (by rw [List.mem_singleton.mp z]; exact hD)
  · rcases z with z | z
    · exact .inl (inA a z)
    · exact .inr (by rw [List.mem_singleton.mp z]; exact hD)
  · simp only [nlL, Bool.and_eq_true] at n ⊢
    exact ⟨nlS_wipe n.1 own, n.2⟩
/-- the last: back in the def -/
theorem AS.fin {H H1 : Hp} {R : Addr → Prop} {vs : L2.St} {s s' : LS} {m A B m1 A1 B1 O : List Addr} {b : Bool} {D : Addr} {own : List Nat} {us : List V} {acc : List LV} (l : LI Y.K H1 R vs s m1 A1 B1) (hc : cleanL s.sl own = true) (hn : nlL s = true)
    (x : AS Y.K H1 R A1 B1 m1 b D H (wipe vs own) ⟨wipeL s'.sl own, s'.ob⟩ m A B O us acc) (e : b = false → (⟨wipeL s'.sl own, s'.ob⟩ : LS) = ⟨wipeL s.sl own, s.ob⟩) :
    Stp Y.K H1 R vs s m1 A1 B1 b H ⟨backL s.sl s'.sl own, s'.ob⟩ m A B (D :: O) where
  li := by
    refine ⟨unwipe l.sl (fun d w as r f => ⟨r.pres x.pr l.own fun a z => (f a z).1, fun a z => ⟨fun q => ?_, fun q => ?_⟩⟩) hc x.li.sl, x.li.ob, x.li.nd, x.li.nr, x.li.rs⟩
    · rcases x.gr a (.inl q) with q | q
      · exact (f a z).1 q
      · exact r.dom a z q
    · rcases q with q | q
      · exact (f a z).2 q
      · rcases x.gr a (.inr q) with q | q
        · exact (f a z).1 q
        · exact r.dom a z q
  nd := x.nd
  nr := x.nr
  ex := fun a z => x.li.rs a (.inr z)
  pr := x.pr
  dm := x.dm
  gr := x.gr
  mm := x.mm
  nl := fun _ => by
    have h := x.nl
    simp only [nlL, Bool.and_eq_true] at h hn ⊢
    refine ⟨?_, h.2⟩
    have : ∀ (is : List Nat) (sl : List (Option LV)), nlS sl = true → nlS (backL s.sl sl is) = true := by
      intro is
      induction is with
      | nil => exact fun sl h => h
      | cons j js ih =>
        intro sl h
        unfold backL
        refine nlS_set (ih sl h) j _ fun y e => ?_
        have : ∀ (sl : List (Option LV)) (i : Nat) (y : LV), nlS sl = true → (sl[i]?).getD none = some y → y.nl = true := by
          intro sl
          induction sl with
          | nil => intro i y _ e; simp at e
          | cons z zs ih2 =>
            intro i y h e
            cases i with
            | zero =>
              simp at e; subst e
              simp [nlS] at h; exact h.1
            | succ i =>
              refine ih2 i y ?_ (by simpa using e)
              cases z with
              | none => simpa [nlS] using h
              | some z => simp [nlS] at h; exact h.2
        exact this s.sl j y hn.1 e
    -- the wiped and the whole agree off own
    have e2 : backL s.sl (wipeL s'.sl own) own = backL s.sl s'.sl own := by
      apply List.ext_getElem?
      intro i
      by_cases hi : i < s'.sl.length
      · rw [backL_at _ _ _ _ (by rw [wipeL_len]; exact hi), backL_at _ _ _ _ hi]
        by_cases z : i ∈ own
        · simp [z]
        · simp [z, wipeL_at _ _ _ hi]
      · rw [List.getElem?_eq_none (by rw [backL_len, wipeL_len]; omega), List.getElem?_eq_none (by rw [backL_len]; omega)]
    rw [← e2]
    exact this own _ h.1
  ef := fun hb => by
    have h := e hb
    obtain ⟨h1, h2⟩ := LS.mk.inj h
    exact ⟨by rw [backL_same h1, h2], x.ef hb⟩

theorem lcBad_no {own : List Nat} {be : Bool} {p : (List LV × Bool) × LS} (h : ¬ lcBad own be p) : (p.1.2 = true → be = false) ∧ cleanL p.2.sl own = true ∧ nlL p.2 = true ∧ nlAll p.1.1 = true := by
  unfold lcBad at h
  simp only [not_or, not_and, Bool.not_eq_false, Bool.not_eq_true] at h
  exact ⟨h.1, h.2.1, h.2.2.1, h.2.2.2⟩
theorem lc_conv {own : List Nat} {fi : ItF} {t : Tg} {ft : LS → Res (Bool × LS)} {fe : EvF} {vs : L2.St} {H : Hp} {Q : VK} {bi bt bl be : Bool} (ht : ∀ i ∈ tgS t, i ∈ own) (hbt : bt = true → be = true) (hbl : bl = true → be = true) (h : tG Y (bi || be) (relV Y) (lcE own be t fi ft fe) vs H Q) :
    tLc (tG Y bi (relIt Y) fi) (tgT Y.K t) (tG Y.b bt relB ft) (tG Y.b bl (relV Y.b) fe) own vs H Q := by
  obtain ⟨s, R, m, A, B, l, n, h⟩ := h
  refine ⟨s, R, m, A, B, l, fun e => n (by rw [e]; rfl), h.split (fun e => by cases bi <;> simp_all) fun p hp h1 J H1 m1 A1 B1 P x1 r1 => ?_⟩
  obtain ⟨rfl, ds, as, G, iw, g, e1, fr⟩ := r1
  by_cases hbad : lcBad own be p
  · rw [if_pos hbad] at h1; exact h1.elim
  rw [if_neg hbad] at h1
  obtain ⟨hb1, hb2, hb3, hb4⟩ := lcBad_no hbad
  obtain ⟨⟨xs, lf⟩, s1⟩ := p
  simp only at e1 fr hb1 hb2 hb3 hb4 h1 x1
  subst e1
  cases ec : compL own t (lcStep ft fe) (ds.map (mkImm lf)) s1 with
  | exc c ps s' => rw [ec] at h1; exact h1.elim
  | stuck => rw [ec] at h1; exact h1.elim
  | ok tot =>
    rw [ec] at h1
    replace h1 : Post Y H R vs s m A B (bi || be) (relV Y) (lcEnd own s1 tot) Q := h1
    unfold lcEnd at h1
    by_cases hz : tot.1.length ≤ sizeLine ∧ nlAll tot.1 = true
    case neg => rw [if_neg hz] at h1; exact h1.elim
    rw [if_pos hz] at h1
    intro D hD
    have l1 : LI Y.K H1 R vs s1 m1 A1 B1 := by have := x1.li; rw [Rv_nil] at this; exact this
    obtain ⟨A', hsub, a0⟩ := AS.start (own := own) (b := be) l1 hb3 hD
    have nD : D ∉ as := fun z => iw.ex g D z hD
    have w0 : Wk Y.K R D lf be as G (upd H1 D (.lst [])) A' B1 [] := ⟨iw.keep g (Pres.new hD) (fun _ z => nomatch z) (fun _ _ z => nomatch z), fun e a z => ⟨fun w => (fr e a z).1 (List.mem_append_left _ ((List.mem_append.mp w).elim (fun w => List.mem_append_left _ (hsub.mem w)) (List.mem_append_right _))), fun w => w.elim (fr e a z).2 fun w => nD (List.mem_singleton.mp w ▸ z)⟩, hb1, nD⟩
    have zs : Zs Y.K R D be (Wk Y.K R D lf be as G) := Wk.zs iw
    refine walk_go iw.w (LP Y.K H1 R A1 B1 m1 be D own (wipe vs own) ⟨wipeL s1.sl own, s1.ob⟩ (Wk Y.K R D lf be as G) t (lcStep ft fe) (ds.map (mkImm lf)) tot) ⟨s1, m1, A', B1, [], [], [], tot.1, a0, w0, fun _ => rfl, by rw [List.drop_zero, ec], rfl⟩ (fun i H' _ q => ?_) (fun i x H2 H3 hi q y => ?_) fun H2 q => ?_
    · obtain ⟨_, _, _, _, _, _, _, _, _, w, _⟩ := q
      exact w.g
    · exact lp_bind zs (fun _ _ _ _ w => w.fr) ht hb4 hi q y.1 y.2 fun σ2 s2 m2 A2 B2 O us acc q rest ew e0 x w es ec et => ⟨ew, lc_turn zs hbt hbl id hz.1 hz.2 ew e0 x w es ec et⟩
    · obtain ⟨s2, m2, A2, B2, O, us, acc, rest, a, w, e0, ec2, et⟩ := q
      rw [List.drop_eq_nil_of_le (by rw [List.length_map]; exact Nat.le_refl _), compL] at ec2
      obtain ⟨e2, e3⟩ := Prod.mk.inj (Res.ok.inj ec2)
      subst e2
      rw [List.append_nil] at et
      have y := AS.fin l1 hb2 hb3 a e0
      have y' : Stp Y.K H1 (Rv R []) vs s1 m1 A1 B1 be H2 ⟨backL s1.sl s2.sl own, s2.ob⟩ m2 A2 B2 (D :: O) := by rw [Rv_nil]; exact y
      rw [e3] at y'
      refine h1 (.ref D) H2 m2 A2 B2 (D :: O) (x1.seq y') ?_
      rw [et]
      exact .lst a.hD a.rp
theorem se_lc {elt tg iter : Expr} {ifs : List Expr} {scope : Scope} {ow : List (Str × Nat)} {pos : Pos} {own : List Nat} {fi : ItF} {t : Tg} {ft : LS → Res (Bool × LS)} {fe : EvF} {bi bt bl be : Bool} (ho : ow.map (·.2) = own) (ht : ∀ i ∈ tgS t, i ∈ own) (hbt : bt = true → be = true) (hbl : bl = true → be = true)
    (hc : X.calm = true) (hN : X.N.Nodup) (hi : SI Y X bi fi tg iter) (ok : BlkOk X.N X.env.scope scope ow)
    (hg : ∀ (s : Shared) (H : Hp) (C : Addr) (cl : List (Str × Addr)) (fp : List Addr), PG (X.blk s H scope (compEnvC scope cl C X.env) fp) tg (tgT Y.K t)) (htt : ∀ (s : Shared) (H : Hp) (C : Addr) (cl : List (Str × Addr)) (fp : List Addr), PTs (X.blk s H scope (compEnvC scope cl C X.env) fp) ifs (tG Y.b bt relB ft))
    (he : ∀ (s : Shared) (H : Hp) (C : Addr) (cl : List (Str × Addr)) (fp : List Addr), SE Y.b (X.blk s H scope (compEnvC scope cl C X.env) fp) bl fe elt) (hs : ∀ x, foldedSetIterable iter X.env x = pure x) :
    SE Y X (bi || be) (lcE own be t fi ft fe) (.ListComp elt [⟨tg, iter, ifs, 0⟩] scope pos) := PEw (pe_lc hc hN hi ok hg htt he hs) fun vs H Q h => by rw [ho]; exact lc_conv ht hbt hbl h

/-! ### two clauses -/
theorem lc2_conv {own own2 : List Nat} {fi fi2 : ItF} {t t2 : Tg} {ft ft2 : LS → Res (Bool × LS)} {fe : EvF} {vs : L2.St} {H : Hp} {Q : VK} {bi bt bi2 bt2 bl be : Bool} (ht : ∀ i ∈ tgS t, i ∈ own) (ht2 : ∀ i ∈ tgS t2, i ∈ own2) (ho2 : ∀ i ∈ own2, i ∈ own)
    (hbt : bt = true → be = true) (hbi2 : bi2 = true → be = true) (hbt2 : bt2 = true → be = true) (hbl : bl = true → be = true) (h : tG Y (bi || be) (relV Y) (lc2E own own2 be t fi ft t2 fi2 ft2 fe) vs H Q) :
    tLc2 (tG Y bi (relIt Y) fi) (tgT Y.K t) (tG Y.b bt relB ft) (tG Y.b bi2 (relIt Y.b) fi2) (tgT Y.K t2) (tG Y.b bt2 relB ft2) (tG Y.b bl (relV Y.b) fe) own own2 vs H Q := by
  obtain ⟨s, R, m, A, B, l, n, h⟩ := h
  refine ⟨s, R, m, A, B, l, fun e => n (by rw [e]; rfl), h.split (fun e => by cases bi <;> simp_all) fun p hp h1 J H1 m1 A1 B1 P x1 r1 => ?_⟩
  obtain ⟨rfl, ds, as, G, iw, g, e1, fr⟩ := r1
  by_cases hbad : lcBad own be p
  · rw [if_pos hbad] at h1; exact h1.elim
  rw [if_neg hbad] at h1
  obtain ⟨hb1, hb2, hb3, hb4⟩ := lcBad_no hbad
  obtain ⟨⟨xs, lf⟩, s1⟩ := p
  simp only at e1 fr hb1 hb2 hb3 hb4 h1 x1
  subst e1
  cases ec : compL own t (lc2Step own2 ft t2 fi2 ft2 fe) (ds.map (mkImm lf)) s1 with
  | exc c ps s' => rw [ec] at h1; exact h1.elim
  | stuck => rw [ec] at h1; exact h1.elim
  | ok tot =>
    rw [ec] at h1
    replace h1 : Post Y H R vs s m A B (bi || be) (relV Y) (lcEnd own s1 tot) Q := h1
    unfold lcEnd at h1
    by_cases hz : tot.1.length ≤ sizeLine ∧ nlAll tot.1 = true
    case neg => rw [if_neg hz] at h1; exact h1.elim
    rw [if_pos hz] at h1
    intro D hD
    have l1 : LI Y.K H1 R vs s1 m1 A1 B1 := by have := x1.li; rw [Rv_nil] at this; exact this
    obtain ⟨A', hsub, a0⟩ := AS.start (own := own) (b := be) l1 hb3 hD
    have nD : D ∉ as := fun z => iw.ex g D z hD
    have w0 : Wk Y.K R D lf be as G (upd H1 D (.lst [])) A' B1 [] := ⟨iw.keep g (Pres.new hD) (fun _ z => nomatch z) (fun _ _ z => nomatch z), fun e a z => ⟨fun w => (fr e a z).1 (List.mem_append_left _ ((List.mem_append.mp w).elim (fun w => List.mem_append_left _ (hsub.mem w)) (List.mem_append_right _))), fun w => w.elim (fr e a z).2 fun w => nD (List.mem_singleton.mp w ▸ z)⟩, hb1, nD⟩
    have zs : Zs Y.K R D be (Wk Y.K R D lf be as G) := Wk.zs iw
    generalize hZ : Wk Y.K R D lf be as G = Z at zs w0
    have hZF : ∀ H A B O, Z H A B O → lf = false → ∀ a ∈ as, Fz (Rv R (D :: O)) (A ++ B) a := fun H A B O w => by rw [← hZ] at w; exact w.fr
    have hZG : ∀ H A B O, Z H A B O → G H := fun H A B O w => by rw [← hZ] at w; exact w.g
    -- the outer loop
    refine ⟨fun i m H => m = ds.length - i ∧ i ≤ ds.length ∧ LP Y.K H1 R A1 B1 m1 be D own (wipe vs own) ⟨wipeL s1.sl own, s1.ob⟩ Z t (lc2Step own2 ft t2 fi2 ft2 fe) (ds.map (mkImm lf)) tot i H,
      ⟨ds.length, by simp, Nat.zero_le _, s1, m1, A', B1, [], [], [], tot.1, a0, w0, fun _ => rfl, by rw [List.drop_zero, ec], rfl⟩, ?_⟩
    rintro i mm H2 ⟨rfl, hi, q⟩
    have g2 : G H2 := by
      obtain ⟨_, _, _, _, _, _, _, _, _, w, _⟩ := q
      exact hZG _ _ _ _ w
    by_cases hlt : i < ds.length
    case neg =>
      have e : i = ds.length := by omega
      subst e
      refine .inl ⟨iw.w.stops H2 g2, ?_⟩
      obtain ⟨s2, m2, A2, B2, O, us, acc, rest, a, w, e0, ec2, et⟩ := q
      rw [List.drop_eq_nil_of_le (by rw [List.length_map]; exact Nat.le_refl _), compL] at ec2
      obtain ⟨e2, e3⟩ := Prod.mk.inj (Res.ok.inj ec2)
      subst e2
      rw [List.append_nil] at et
      have y := AS.fin l1 hb2 hb3 a e0
      have y' : Stp Y.K H1 (Rv R []) vs s1 m1 A1 B1 be H2 ⟨backL s1.sl s2.sl own, s2.ob⟩ m2 A2 B2 (D :: O) := by rw [Rv_nil]; exact y
      rw [e3] at y'
      refine h1 (.ref D) H2 m2 A2 B2 (D :: O) (x1.seq y') ?_
      rw [et]
      exact .lst a.hD a.rp
    refine .inr ⟨iw.w.goes i H2 hlt g2, LP Y.K H1 R A1 B1 m1 be D own (wipe vs own) ⟨wipeL s1.sl own, s1.ob⟩ Z t (lc2Step own2 ft t2 fi2 ft2 fe) (ds.map (mkImm lf)) tot (i + 1), fun H' p' => ⟨ds.length - (i + 1), by omega, rfl, hlt, p'⟩, fun x H3 yy => ?_⟩
    have y := iw.w.yields i H2 x H3 hlt g2 yy
    refine lp_bind zs hZF ht hb4 hlt q y.1 y.2 fun σ2 s2 m2 A2 B2 O us acc q rest ew e0 x w es ec et => ⟨ew, ?_⟩
    -- the first test
    refine ⟨s2, Rv R (D :: O), m2, A2, B2, x.li, fun _ => x.nl, ?_⟩
    unfold lc2Step at es
    cases f1 : ft s2 with
    | exc c ps s' => rw [f1] at es; cases es
    | stuck => rw [f1] at es; cases es
    | ok tt =>
      rw [f1] at es
      simp only [Res.bind] at es
      intro c H4 m3 A3 B3 P y3 hrel
      obtain ⟨rfl, rfl⟩ := hrel
      have hD3 : H4 D = some (.lst us) := y3.pr D _ x.hD fun z => x.li.nr D z (.inr List.mem_cons_self)
      have x3 := x.step y3 hbt (us' := us) (acc' := acc) (O' := O) (fun r => by simpa using r) (by simp) x.na
      have w3 := zs.step w y3 x.li.own hbt hD3 (u := us)
      rw [upd_self hD3, List.append_nil] at w3
      rw [upd_self hD3] at x3
      have ef3 : be = false → tt.2 = s2 := fun h => (y3.ef (by
        cases e : bt with
        | false => rfl
        | true => rw [hbt e] at h; cases h)).1
      cases hc : tt.1 with
      | false =>
        rw [hc] at es
        simp only [Bool.false_eq_true, if_false] at es ⊢
        cases es
        obtain ⟨A', hs, x4⟩ := x3.wiped ew
        exact ⟨tt.2, m3, A', B3, O, us, acc, rest, x4, zs.slots w3 hs, fun h => by rw [ef3 h]; exact e0 h, ec, by simpa using et⟩
      | true =>
        rw [hc] at es
        simp only [if_true] at es ⊢
        cases f2 : fi2 tt.2 with
        | exc c ps s' => rw [f2] at es; cases es
        | stuck => rw [f2] at es; cases es
        | ok p2 =>
          rw [f2] at es
          simp only at es
          refine ⟨tt.2, Rv R (D :: O), m3, A3, B3, x3.li, fun _ => x3.nl, ?_⟩
          rw [f2]
          intro J1 H5 m4 A4 B4 P y4 rv
          obtain ⟨rfl, ds2, as2, G2, iw2, g4, e2, fr2⟩ := rv
          by_cases hbd : p2.1.2 = true ∨ nlAll p2.1.1 = false
          · rw [if_pos hbd] at es; cases es
          rw [if_neg hbd] at es
          obtain ⟨⟨xs2, l2⟩, s4⟩ := p2
          simp only at e2 fr2 y4 es hbd
          subst e2
          have hn2 : nlAll (ds2.map (mkImm l2)) = true := by
            cases e : nlAll (ds2.map (mkImm l2)) with
            | true => rfl
            | false => exact absurd (.inr e) hbd
          have hl2 : l2 = false := by
            cases e : l2 with
            | false => rfl
            | true => exact absurd (.inl e) hbd
          subst hl2
          have fr2 := fr2 rfl
          have hD4 : H5 D = some (.lst us) := y4.pr D _ x3.hD fun z => x3.li.nr D z (.inr List.mem_cons_self)
          have x4 := x3.step y4 hbi2 (us' := us) (acc' := acc) (O' := O) (fun r => by simpa using r) (by simp) x3.na
          have w4 := zs.step w3 y4 x3.li.own hbi2 hD4 (u := us)
          rw [upd_self hD4, List.append_nil] at w4
          rw [upd_self hD4] at x4
          have ef4 : be = false → s4 = tt.2 := fun h => (y4.ef (by
            cases e : bi2 with
            | false => rfl
            | true => rw [hbi2 e] at h; cases h)).1
          have nD2 : D ∉ as2 := fun z => (fr2 D z).2 (.inr List.mem_cons_self)
          have zs2 : Zs Y.K R D be (fun H A B O => Wk Y.K R D false be as2 G2 H A B O ∧ Z H A B O) := (Wk.zs iw2).and zs
          obtain ⟨A5, hs5, x5⟩ := x4.wiped (own := own2) rfl
          have w5 : Wk Y.K R D false be as2 G2 H5 A4 B4 O := ⟨g4, fun _ a z => ⟨fun w => (fr2 a z).1 (List.mem_append_left _ w), (fr2 a z).2⟩, (fun z => nomatch z), nD2⟩
          have hz2 : (acc ++ q.1).length ≤ sizeLine := by
            have := hz.1
            rw [et] at this
            simp only [List.length_append] at this ⊢
            omega
          have hna2 : nlAll (acc ++ q.1) = true := by
            have := hz.2
            rw [et] at this
            simp only [nlAll, List.all_append, Bool.and_eq_true] at this ⊢
            exact ⟨this.1, this.2.1⟩
          refine walk_go iw2.w (LP Y.K H1 R A1 B1 m1 be D own2 (wipe σ2 own2) ⟨wipeL s4.sl own2, s4.ob⟩ (fun H A B O => Wk Y.K R D false be as2 G2 H A B O ∧ Z H A B O) t2 (lcStep ft2 fe) (ds2.map (mkImm false)) (acc ++ q.1, q.2))
            ⟨s4, m4, A5, B4, O, us, acc, q.1, x5, zs2.slots ⟨w5, w4⟩ hs5, fun _ => rfl, by rw [List.drop_zero]; exact es, rfl⟩ (fun j H' _ q => ?_) (fun j x H6 H7 hj qq y => ?_) fun H6 qq => ?_
          · obtain ⟨_, _, _, _, _, _, _, _, _, w, _⟩ := q
            exact w.1.g
          · exact lp_bind zs2 (fun _ _ _ _ w => w.1.fr) ht2 hn2 hj qq y.1 y.2 fun σ3 s3 m3 A3 B3 O us acc q rest ew e0 x w es ec et => ⟨ew, lc_turn zs2 hbt2 hbl id hz2 hna2 ew e0 x w es ec et⟩
          · obtain ⟨s6, m6, A6, B6, O6, us6, acc6, rest6, x6, w6, e6, ec6, et6⟩ := qq
            rw [List.drop_eq_nil_of_le (by rw [List.length_map]; exact Nat.le_refl _), compL] at ec6
            obtain ⟨e7, e8⟩ := Prod.mk.inj (Res.ok.inj ec6)
            subst e7
            simp only [List.append_nil] at et6 e8
            have len6 := x6.li.sl.length
            have sub : ∀ sl : List (Option LV), wipeL (wipeL sl own2) own = wipeL sl own := fun sl => wipeL_wipe wipeL_len fun j hj hn => by rw [wipeL_at _ _ _ hj, if_neg fun z => hn (ho2 j z)]
            have subV : wipe (wipe σ2 own2) own = wipe vs own := (wipe_wipe (wipe_length _ _) fun j hj hn => by rw [wipe_at _ _ _ hj, if_neg fun z => hn (ho2 j z)]).trans ew
            obtain ⟨A7, hs7, x7⟩ := x6.wiped subV
            simp only at x7
            rw [sub] at x7
            subst e8
            refine ⟨q.2, m6, A7, B6, O6, us6, acc6, rest, x7, zs.slots w6.2 hs7, fun h => ?_, ec, by rw [et, ← List.append_assoc, et6]⟩
            obtain ⟨h1, h2⟩ := LS.mk.inj (e6 h)
            have h3 : wipeL q.2.sl own = wipeL s4.sl own := by rw [← sub q.2.sl, h1, sub]
            rw [h3, h2, ef4 h, ef3 h]
            exact e0 h
theorem se_lc2 {elt tg iter tg2 iter2 : Expr} {ifs ifs2 : List Expr} {scope : Scope} {ow : List (Str × Nat)} {pos : Pos} {own own2 : List Nat} {fi fi2 : ItF} {t t2 : Tg} {ft ft2 : LS → Res (Bool × LS)} {fe : EvF} {bi bt bi2 bt2 bl be : Bool} (ho : ow.map (·.2) = own) (ht : ∀ i ∈ tgS t, i ∈ own) (ht2 : ∀ i ∈ tgS t2, i ∈ own2) (ho2 : ∀ i ∈ own2, i ∈ own)
    (hbt : bt = true → be = true) (hbi2 : bi2 = true → be = true) (hbt2 : bt2 = true → be = true) (hbl : bl = true → be = true)
    (hc : X.calm = true) (hN : X.N.Nodup) (hi : SI Y X bi fi tg iter) (ok : BlkOk X.N X.env.scope scope ow)
    (hg : ∀ (s : Shared) (H : Hp) (C : Addr) (cl : List (Str × Addr)) (fp : List Addr), PG (X.blk s H scope (compEnvC scope cl C X.env) fp) tg (tgT Y.K t)) (htt : ∀ (s : Shared) (H : Hp) (C : Addr) (cl : List (Str × Addr)) (fp : List Addr), PTs (X.blk s H scope (compEnvC scope cl C X.env) fp) ifs (tG Y.b bt relB ft))
    (hi2 : ∀ (s : Shared) (H : Hp) (C : Addr) (cl : List (Str × Addr)) (fp : List Addr), SI Y.b (X.blk s H scope (compEnvC scope cl C X.env) fp) bi2 fi2 tg2 iter2)
    (hg2 : ∀ (s : Shared) (H : Hp) (C : Addr) (cl : List (Str × Addr)) (fp : List Addr), PG (X.blk s H scope (compEnvC scope cl C X.env) fp) tg2 (tgT Y.K t2)) (ht2t : ∀ (s : Shared) (H : Hp) (C : Addr) (cl : List (Str × Addr)) (fp : List Addr), PTs (X.blk s H scope (compEnvC scope cl C X.env) fp) ifs2 (tG Y.b bt2 relB ft2))
    (he : ∀ (s : Shared) (H : Hp) (C : Addr) (cl : List (Str × Addr)) (fp : List Addr), SE Y.b (X.blk s H scope (compEnvC scope cl C X.env) fp) bl fe elt) (hs : ∀ x, foldedSetIterable iter X.env x = pure x) (hs2 : ∀ env x, foldedSetIterable iter2 env x = pure x) :
    SE Y X (bi || be) (lc2E own own2 be t fi ft t2 fi2 ft2 fe) (.ListComp elt [⟨tg, iter, ifs, 0⟩, ⟨tg2, iter2, ifs2, 0⟩] scope pos) :=
  PEw (pe_lc2 hc hN hi ok (vs1 := own2) (fun i hi => by rw [ho]; exact ho2 i hi) hg htt hi2 hg2 ht2t he hs hs2) fun vs H Q h => by rw [ho]; exact lc2_conv ht ht2 ho2 hbt hbi2 hbt2 hbl h
/-- no test, one test -/
theorem pts_none {Y : Yx} {X : Cx} {b : Bool} : PTs X [] (tG Y b relB (fun s => .ok (true, s))) := ⟨fun pins s σ H Q I h => pts_nil.run pins s σ H Q I (by
  obtain ⟨s0, R, m, A, B, l, n, h⟩ := h
  exact h true H m A B [] (Stp.refl l) ⟨rfl, rfl⟩)⟩
end
end MP
/-! MP.20: paths to own things -/
namespace MP
open PySem PySem.Spec PyProof.Rows L2

section
variable {K : PySem.W.Frag} {H : Hp} {m : List Addr} {F : Addr → Prop}
inductive Reach (K : PySem.W.Frag) (H : Hp) : V → List PyData → V → Prop
  | nil {v : V} : Reach K H v [] v
  | lst {a : Addr} {vs : List V} {i : Int} {w z : V} {ds : List PyData} : H a = some (.lst vs) → atI vs i = some w → Reach K H w ds z → Reach K H (.ref a) (.int i :: ds) z
  | dic {a : Addr} {vs : List (Key × V)} {d : PyData} {k : Key} {w z : V} {ds : List PyData} : H a = some (.dK vs) → keyOf d = some k → valV vs k = some w → Reach K H w ds z → Reach K H (.ref a) (d :: ds) z
theorem Reach.snoc {v z w : V} {ds : List PyData} {d : PyData} (r : Reach K H v ds z) (s : Reach K H z [d] w) : Reach K H v (ds ++ [d]) w := by
  induction r with
  | nil => exact s
  | lst h e _ ih => exact .lst h e (ih s)
  | dic h ek e _ ih => exact .dic h ek e (ih s)
theorem Reach.pres {H' : Hp} (p : Pres [] H H') {v z : V} {ds : List PyData} (r : Reach K H v ds z) : Reach K H' v ds z := by
  induction r with
  | nil => exact .nil
  | lst h e _ ih => exact .lst (p _ _ h fun z => nomatch z) e ih
  | dic h ek e _ ih => exact .dic (p _ _ h fun z => nomatch z) ek e ih
theorem Reach.split {z : V} : ∀ {ds : List PyData} {d : PyData} {v : V}, Reach K H v (ds ++ [d]) z → ∃ w, Reach K H v ds w ∧ Reach K H w [d] z := by
  intro ds
  induction ds with
  | nil => exact fun {d v} r => ⟨v, .nil, r⟩
  | cons c ds ih =>
    intro d v r
    rw [List.cons_append] at r
    cases r with
    | lst h e r =>
      obtain ⟨w, r1, r2⟩ := ih r
      exact ⟨w, .lst h e r1, r2⟩
    | dic h ek e r =>
      obtain ⟨w, r1, r2⟩ := ih r
      exact ⟨w, .dic h ek e r1, r2⟩

/-- the other things stay as one is written -/
def Put (K : PySem.W.Frag) (H : Hp) (m : List Addr) (F : Addr → Prop) (Oz : List Addr) (P : Hp → (Addr → Prop) → List Addr → List Addr → Prop) : Prop :=
  ∀ (H' : Hp) (F' : Addr → Prop) (l : Addr) (Oz' : List Addr), l ∈ Oz → Pres [l] H H' → WM [l] H → (∀ a, F a → H a ≠ none → F' a) → (∀ a, F a → H a ≠ none → a ≠ l) → P H' F' [l] Oz'

theorem Rps.nth : ∀ {xs : List LV} {vs : List V} {O : List Addr} {j : Nat} {c : LV}, Rps K H m F vs xs O → LV.nls xs = true → O.Nodup → xs[j]? = some c →
    ∃ w Oc Or, vs[j]? = some w ∧ Rp K H m F w c Oc ∧ O.Perm (Oc ++ Or) ∧ c.nl = true ∧
      ∀ (H' : Hp) (F' : Addr → Prop) (l : Addr) (c' : LV) (Oc' : List Addr), l ∈ Oc → Pres [l] H H' → WM [l] H → (∀ a, F a → H a ≠ none → F' a) → (∀ a, F a → H a ≠ none → a ≠ l) → Rp K H' m F' w c' Oc' → ∃ O', Rps K H' m F' vs (xs.set j c') O' ∧ O'.Perm (Oc' ++ Or)
  | [], _, _, j, c, .nil, _, _, e => by simp at e
  | x :: xs, v :: vs, _, j, c, @Rps.cons _ _ _ _ _ _ _ _ O P r t, n, nd, e => by
    simp only [LV.nls, Bool.and_eq_true] at n
    have nd' := List.nodup_append.mp nd
    cases j with
    | zero =>
      simp at e; subst e
      refine ⟨v, O, P, rfl, r, List.Perm.refl _, n.1, fun H' F' l c' Oc' hl p wm hF hn q => ⟨Oc' ++ P, .cons q ?_, List.Perm.refl _⟩⟩
      exact t.pres p wm (fun _ _ e => e) hF (fun a f ne w => hn a f ne (List.mem_singleton.mp w)) (fun a z w => nd'.2.2 l hl a z (List.mem_singleton.mp w).symm) (.inr n.2)
    | succ j =>
      obtain ⟨w, Oc, Or, e1, rc, pm, nc, put⟩ := Rps.nth t n.2 nd'.2.1 (j := j) (by simpa using e)
      refine ⟨w, Oc, O ++ Or, by simpa using e1, rc, ?_, nc, fun H' F' l c' Oc' hl p wm hF hn q => ?_⟩
      · refine (List.Perm.append_left O pm).trans ?_
        rw [← List.append_assoc, ← List.append_assoc]
        exact List.Perm.append_right Or List.perm_append_comm
      · obtain ⟨O', q1, q2⟩ := put H' F' l c' Oc' hl p wm hF hn q
        refine ⟨O ++ O', .cons (r.pres p wm (fun _ _ e => e) hF (fun a f ne w => hn a f ne (List.mem_singleton.mp w)) (fun a z w => nd'.2.2 a z l (pm.mem_iff.mpr (List.mem_append_left _ hl)) (List.mem_singleton.mp w)) (.inr n.1)) q1, ?_⟩
        refine (List.Perm.append_left O q2).trans ?_
        rw [← List.append_assoc, ← List.append_assoc]
        exact List.Perm.append_right Or List.perm_append_comm
theorem valV_cons {kvs : List (Key × V)} {k' k : Key} {v : V} : valV ((k', v) :: kvs) k = if k' = k then some v else valV kvs k := by
  by_cases e : k' = k
  · rw [if_pos e]; exact valV_pos (p := (k', v)) e
  · rw [if_neg e]; exact valV_neg (p := (k', v)) e
theorem Rpk.look : ∀ {xs : List (Key × LV)} {vs : List (Key × V)} {O : List Addr} {k : Key} {c : LV}, Rpk K H m F vs xs O → LV.nlk xs = true → O.Nodup → lookK xs k = some c →
    ∃ w Oc Or, valV vs k = some w ∧ Rp K H m F w c Oc ∧ O.Perm (Oc ++ Or) ∧ c.nl = true ∧
      ∀ (H' : Hp) (F' : Addr → Prop) (l : Addr) (c' : LV) (Oc' : List Addr), l ∈ Oc → Pres [l] H H' → WM [l] H → (∀ a, F a → H a ≠ none → F' a) → (∀ a, F a → H a ≠ none → a ≠ l) → Rp K H' m F' w c' Oc' → ∃ O', Rpk K H' m F' vs (setK xs k c') O' ∧ O'.Perm (Oc' ++ Or)
  | [], _, _, k, c, .nil, _, _, e => by simp [lookK] at e
  | (k', x) :: xs, _, _, k, c, @Rpk.cons _ _ _ _ _ v vs _ _ O P r t, n, nd, e => by
    simp only [LV.nlk, Bool.and_eq_true] at n
    have nd' := List.nodup_append.mp nd
    unfold lookK at e
    by_cases hk : k' = k
    · rw [if_pos hk] at e
      cases e
      refine ⟨v, O, P, by rw [valV_cons, if_pos hk], r, List.Perm.refl _, n.1, fun H' F' l c' Oc' hl p wm hF hn q => ⟨Oc' ++ P, ?_, List.Perm.refl _⟩⟩
      unfold setK
      rw [if_pos hk]
      exact .cons q (t.pres p wm (fun _ _ e => e) hF (fun a f ne w => hn a f ne (List.mem_singleton.mp w)) (fun a z w => nd'.2.2 l hl a z (List.mem_singleton.mp w).symm) (.inr n.2))
    · rw [if_neg hk] at e
      obtain ⟨w, Oc, Or, e1, rc, pm, nc, put⟩ := Rpk.look t n.2 nd'.2.1 e
      refine ⟨w, Oc, O ++ Or, by rw [valV_cons, if_neg hk]; exact e1, rc, ?_, nc, fun H' F' l c' Oc' hl p wm hF hn q => ?_⟩
      · refine (List.Perm.append_left O pm).trans ?_
        rw [← List.append_assoc, ← List.append_assoc]
        exact List.Perm.append_right Or List.perm_append_comm
      · obtain ⟨O', q1, q2⟩ := put H' F' l c' Oc' hl p wm hF hn q
        unfold setK
        rw [if_neg hk]
        refine ⟨O ++ O', .cons (r.pres p wm (fun _ _ e => e) hF (fun a f ne w => hn a f ne (List.mem_singleton.mp w)) (fun a z w => nd'.2.2 a z l (pm.mem_iff.mpr (List.mem_append_left _ hl)) (List.mem_singleton.mp w)) (.inr n.1)) q1, ?_⟩
        refine (List.Perm.append_left O q2).trans ?_
        rw [← List.append_assoc, ← List.append_assoc]
        exact List.Perm.append_right Or List.perm_append_comm

theorem atI_two {α β : Type} {xs : List α} {vs : List β} {i : Int} {c : α} (hl : vs.length = xs.length) (e : atI xs i = some c) : ∃ j, ixN xs.length i = some j ∧ xs[j]? = some c ∧ ∀ w, vs[j]? = some w → atI vs i = some w := by
  unfold atI at e ⊢
  cases h : ixN xs.length i with
  | none => rw [h] at e; cases e
  | some j =>
    rw [h] at e
    exact ⟨j, rfl, e, fun w hw => by rw [hl, h]; exact hw⟩
theorem stepL_dic {ks : List (Key × LV)} {d : PyData} : stepL (.dic ks) d = (match keyOf d with | some k => lookK ks k | none => none) := rfl
/-- the thing at a path, and another one in its place -/
theorem path_rp : ∀ {ds : List PyData} {x z : LV} {v : V} {O : List Addr}, Rp K H m F v x O → x.nl = true → O.Nodup → getP x ds = some z →
    ∃ vz Oz Or, Reach K H v ds vz ∧ Rp K H m F vz z Oz ∧ O.Perm (Oz ++ Or) ∧ z.nl = true ∧
      ∀ (H' : Hp) (F' : Addr → Prop) (l : Addr) (z' x' : LV) (Oz' : List Addr), l ∈ Oz → Pres [l] H H' → WM [l] H → (∀ a, F a → H a ≠ none → F' a) → (∀ a, F a → H a ≠ none → a ≠ l) → Rp K H' m F' vz z' Oz' → putP x ds z' = some x' → ∃ O', Rp K H' m F' v x' O' ∧ O'.Perm (Oz' ++ Or)
  | [], x, z, v, O, r, n, nd, e => by
    unfold getP at e
    cases e
    refine ⟨v, O, [], .nil, r, by rw [List.append_nil], n, fun H' F' l z' x' Oz' hl p wm hF hn q e => ?_⟩
    unfold putP at e
    cases e
    exact ⟨Oz', q, by rw [List.append_nil]⟩
  | d :: ds, x, z, v, O, r, n, nd, e => by
    unfold getP at e
    cases es : stepL x d with
    | none => rw [es] at e; cases e
    | some c =>
      rw [es] at e
      simp only at e
      unfold stepL at es
      split at es
      · rename_i xs i
        cases r with
        | @lst a vs _ O1 h r =>
          obtain ⟨na, nd1⟩ := List.nodup_cons.mp nd
          obtain ⟨j, ej, ec, hat⟩ := atI_two (vs := vs) r.length es
          obtain ⟨w, Oc, Or, e1, rc, pm, nc, put⟩ := r.nth (by simpa [LV.nl] using n) nd1 ec
          have ndc : Oc.Nodup := (List.nodup_append.mp (pm.nodup_iff.mp nd1)).1
          obtain ⟨vz, Oz, Or2, rr, rz, pm2, nz, put2⟩ := path_rp rc nc ndc e
          refine ⟨vz, Oz, a :: (Or2 ++ Or), .lst h (hat w e1) rr, rz, ?_, nz, fun H' F' l z' x' Oz' hl p wm hF hn q e => ?_⟩
          · have : (a :: O1).Perm (a :: (Oz ++ (Or2 ++ Or))) := .cons _ (pm.trans (by rw [← List.append_assoc]; exact List.Perm.append_right Or pm2))
            exact this.trans List.perm_middle.symm
          · unfold putP at e
            rw [show stepL (.lst xs) (.int i) = some c from by unfold stepL; exact es] at e
            simp only at e
            cases ep : putP c ds z' with
            | none => rw [ep] at e; cases e
            | some c' =>
              rw [ep] at e
              simp only [putL, ej, Option.map_some, Option.some.injEq] at e
              subst e
              obtain ⟨Oc', q1, q2⟩ := put2 H' F' l z' c' Oz' hl p wm hF hn q ep
              have hlc : l ∈ Oc := pm2.mem_iff.mpr (List.mem_append_left _ hl)
              obtain ⟨O1', q3, q4⟩ := put H' F' l c' Oc' hlc p wm hF hn q1
              have nal : a ≠ l := fun e => na (pm.mem_iff.mpr (List.mem_append_left _ (e ▸ hlc)))
              refine ⟨a :: O1', .lst (p a _ h fun w => nal (List.mem_singleton.mp w)) q3, ?_⟩
              have : (a :: O1').Perm (a :: (Oz' ++ (Or2 ++ Or))) := .cons _ (q4.trans (by rw [← List.append_assoc]; exact List.Perm.append_right Or q2))
              exact this.trans List.perm_middle.symm
      · rename_i ks
        split at es
        · rename_i k ek
          cases r with
          | @dic a vs _ O1 h r =>
            obtain ⟨na, nd1⟩ := List.nodup_cons.mp nd
            obtain ⟨w, Oc, Or, e1, rc, pm, nc, put⟩ := r.look (by simpa [LV.nl] using n) nd1 es
            have ndc : Oc.Nodup := (List.nodup_append.mp (pm.nodup_iff.mp nd1)).1
            obtain ⟨vz, Oz, Or2, rr, rz, pm2, nz, put2⟩ := path_rp rc nc ndc e
            refine ⟨vz, Oz, a :: (Or2 ++ Or), .dic h ek e1 rr, rz, ?_, nz, fun H' F' l z' x' Oz' hl p wm hF hn q e => ?_⟩
            · have : (a :: O1).Perm (a :: (Oz ++ (Or2 ++ Or))) := .cons _ (pm.trans (by rw [← List.append_assoc]; exact List.Perm.append_right Or pm2))
              exact this.trans List.perm_middle.symm
            · unfold putP at e
              rw [show stepL (.dic ks) d = some c from by rw [stepL_dic, ek]; exact es] at e
              simp only at e
              cases ep : putP c ds z' with
              | none => rw [ep] at e; cases e
              | some c' =>
                rw [ep] at e
                simp only [putL, ek, Option.map_some, Option.some.injEq] at e
                subst e
                obtain ⟨Oc', q1, q2⟩ := put2 H' F' l z' c' Oz' hl p wm hF hn q ep
                have hlc : l ∈ Oc := pm2.mem_iff.mpr (List.mem_append_left _ hl)
                obtain ⟨O1', q3, q4⟩ := put H' F' l c' Oc' hlc p wm hF hn q1
                have nal : a ≠ l := fun e => na (pm.mem_iff.mpr (List.mem_append_left _ (e ▸ hlc)))
                refine ⟨a :: O1', .dic (p a _ h fun w => nal (List.mem_singleton.mp w)) q3, ?_⟩
                have : (a :: O1').Perm (a :: (Oz' ++ (Or2 ++ Or))) := .cons _ (q4.trans (by rw [← List.append_assoc]; exact List.Perm.append_right Or q2))
                exact this.trans List.perm_middle.symm
        · cases es
      · cases es
end
end MP
/-! MP.21: own things at paths: read -/
namespace MP
open PySem PySem.Spec PyProof.Rows L2

theorem pmid {A B C : List Addr} : (A ++ (B ++ C)).Perm (B ++ (A ++ C)) := by
  rw [← List.append_assoc, ← List.append_assoc]
  exact List.Perm.append_right C List.perm_append_comm
section
variable {K : PySem.W.Frag} {H : Hp} {m : List Addr} {F : Addr → Prop}
theorem Rps.get {xs : List LV} {vs : List V} {O : List Addr} {j : Nat} {c : LV} (r : Rps K H m F vs xs O) (e : xs[j]? = some c) : ∃ w Oc, vs[j]? = some w ∧ Rp K H m F w c Oc := by
  induction xs generalizing vs O j with
  | nil => simp at e
  | cons x xs ih =>
    cases r with
    | cons r t =>
      cases j with
      | zero => simp at e; subst e; exact ⟨_, _, rfl, r⟩
      | succ j => obtain ⟨w, Oc, h1, h2⟩ := ih t (by simpa using e); exact ⟨w, Oc, by simpa using h1, h2⟩
theorem Rpk.get {xs : List (Key × LV)} {vs : List (Key × V)} {O : List Addr} {k : Key} {c : LV} (r : Rpk K H m F vs xs O) (e : lookK xs k = some c) : ∃ w Oc, valV vs k = some w ∧ Rp K H m F w c Oc := by
  induction xs generalizing vs O with
  | nil => simp [lookK] at e
  | cons x xs ih =>
    obtain ⟨k', x⟩ := x
    cases r with
    | cons r t =>
      unfold lookK at e
      by_cases hk : k' = k
      · rw [if_pos hk] at e; cases e; exact ⟨_, _, by rw [valV_cons, if_pos hk], r⟩
      · rw [if_neg hk] at e
        obtain ⟨w, Oc, h1, h2⟩ := ih t e
        exact ⟨w, Oc, by rw [valV_cons, if_neg hk]; exact h1, h2⟩
theorem step_rp {x c : LV} {d : PyData} {v : V} {O : List Addr} (r : Rp K H m F v x O) (e : stepL x d = some c) : ∃ w Oc, (∀ z ds, Reach K H w ds z → Reach K H v (d :: ds) z) ∧ Rp K H m F w c Oc := by
  cases r with
  | lst h r =>
    cases d with
    | int i =>
      obtain ⟨j, ej, ec, hat⟩ := atI_two r.length (show atI _ i = some c from e)
      obtain ⟨w, Oc, h1, h2⟩ := r.get ec
      exact ⟨w, Oc, fun z ds q => .lst h (hat w h1) q, h2⟩
    | _ => cases e
  | dic h r =>
    rw [stepL_dic] at e
    split at e
    · rename_i k ek
      obtain ⟨w, Oc, h1, h2⟩ := r.get e
      exact ⟨w, Oc, fun z ds q => .dic h ek h1 q, h2⟩
    · cases e
  | _ => cases e
theorem get_rp : ∀ {ds : List PyData} {x z : LV} {v : V} {O : List Addr}, Rp K H m F v x O → getP x ds = some z → ∃ vz Oz, Reach K H v ds vz ∧ Rp K H m F vz z Oz
  | [], x, z, v, O, r, e => by unfold getP at e; cases e; exact ⟨v, O, .nil, r⟩
  | d :: ds, x, z, v, O, r, e => by
    unfold getP at e
    cases es : stepL x d with
    | none => rw [es] at e; cases e
    | some c =>
      rw [es] at e
      obtain ⟨w, Oc, h1, h2⟩ := step_rp r es
      obtain ⟨vz, Oz, q1, q2⟩ := get_rp h2 e
      exact ⟨vz, Oz, h1 _ _ q1, q2⟩
theorem split_rp : ∀ {ds : List PyData} {x : LV} {v : V} {O : List Addr} {l : Nat} {rest : List PyData}, Rp K H m F v x O → splitP x ds = some (l, rest) → ∃ a, m[l]? = some a ∧ ∀ vz, Reach K H (.ref a) rest vz → Reach K H v ds vz
  | [], x, v, O, l, rest, r, e => by
    cases x <;> simp [splitP] at e
    obtain ⟨rfl, rfl⟩ := e
    cases r with
    | ref h => exact ⟨_, h, fun _ q => q⟩
  | d :: ds, x, v, O, l, rest, r, e => by
    by_cases hx : ∃ l', x = .ref l'
    · obtain ⟨l', rfl⟩ := hx
      simp [splitP] at e
      obtain ⟨rfl, rfl⟩ := e
      cases r with
      | ref h => exact ⟨_, h, fun _ q => q⟩
    · have e' : (match stepL x d with
        | some c => splitP c ds
        | none => none) = some (l, rest) := by
        cases x <;> first | exact e | exact absurd ⟨_, rfl⟩ hx
      cases es : stepL x d with
      | none => rw [es] at e'; cases e'
      | some c =>
        rw [es] at e'
        obtain ⟨w, Oc, h1, h2⟩ := step_rp r es
        obtain ⟨a, q1, q2⟩ := split_rp h2 e'
        exact ⟨a, q1, fun vz q => h1 _ _ (q2 vz q)⟩
theorem RpS.nth {vs : L2.St} {sl : List (Option LV)} {A : List Addr} (r : RpS K H m F vs sl A) : ∀ {i : Nat} {x : LV}, nlS sl = true → A.Nodup → sl[i]? = some (some x) →
    ∃ v O Or, vs[i]? = some (some v) ∧ Rp K H m F v x O ∧ A.Perm (O ++ Or) ∧ x.nl = true ∧
      ∀ (H' : Hp) (F' : Addr → Prop) (l : Addr) (x' : LV) (O' : List Addr), l ∈ O → Pres [l] H H' → WM [l] H → (∀ a, F a → H a ≠ none → F' a) → (∀ a, F a → H a ≠ none → a ≠ l) → Rp K H' m F' v x' O' → ∃ A', RpS K H' m F' vs (sl.set i (some x')) A' ∧ A'.Perm (O' ++ Or) := by
  induction r with
  | nil => intro i x _ _ e; simp at e
  | @no u us xs P r ih =>
    intro i x n nd e
    cases i with
    | zero => simp at e
    | succ i =>
      obtain ⟨v, O, Or, e1, rv, pm, nx, put⟩ := ih (i := i) (x := x) (by simpa [nlS] using n) nd (by simpa using e)
      refine ⟨v, O, Or, by simpa using e1, rv, pm, nx, fun H' F' l x' O' hl p wm hF hn q => ?_⟩
      obtain ⟨A', h1, h2⟩ := put H' F' l x' O' hl p wm hF hn q
      exact ⟨A', .no h1, h2⟩
  | @so v us y xs O P h r ih =>
    intro i x n nd e
    have nd' := List.nodup_append.mp nd
    simp [nlS] at n
    cases i with
    | zero =>
      simp at e; subst e
      refine ⟨v, O, P, rfl, h, List.Perm.refl _, n.1, fun H' F' l x' O' hl p wm hF hn q => ⟨O' ++ P, .so q ?_, List.Perm.refl _⟩⟩
      exact r.pres p wm (fun _ _ e => e) hF (fun a f ne w => hn a f ne (List.mem_singleton.mp w)) (fun a z w => nd'.2.2 l hl a z (List.mem_singleton.mp w).symm) (.inr n.2)
    | succ i =>
      obtain ⟨w, O2, Or, e1, rv, pm, nx, put⟩ := ih (i := i) (x := x) n.2 nd'.2.1 (by simpa using e)
      refine ⟨w, O2, O ++ Or, by simpa using e1, rv, ?_, nx, fun H' F' l x' O' hl p wm hF hn q => ?_⟩
      · refine (List.Perm.append_left O pm).trans ?_
        rw [← List.append_assoc, ← List.append_assoc]
        exact List.Perm.append_right Or List.perm_append_comm
      · obtain ⟨A', h1, h2⟩ := put H' F' l x' O' hl p wm hF hn q
        refine ⟨O ++ A', .so (h.pres p wm (fun _ _ e => e) hF (fun a f ne w => hn a f ne (List.mem_singleton.mp w)) (fun a z w => nd'.2.2 a z l (pm.mem_iff.mpr (List.mem_append_left _ hl)) (List.mem_singleton.mp w)) (.inr n.1)) h1, ?_⟩
        refine (List.Perm.append_left O h2).trans ?_
        rw [← List.append_assoc, ← List.append_assoc]
        exact List.Perm.append_right Or List.perm_append_comm

/-- the thing at a slot's path, and another one in its place -/
theorem focus_rp {R : Addr → Prop} {vs : L2.St} {s : LS} {A B : List Addr} {i : Nat} {ds : List PyData} {z : LV} (l0 : LI K H R vs s m A B) (n : nlL s = true) (e : getF s i ds = some z) :
    ∃ v vz Oz Or, vs[i]? = some (some v) ∧ Reach K H v ds vz ∧ Rp K H m (Fz R (A ++ B)) vz z Oz ∧ (A ++ B).Perm (Oz ++ Or) ∧ z.nl = true ∧
      ∀ (H' : Hp) (F' : Addr → Prop) (l : Addr) (z' : LV) (s' : LS) (Oz' : List Addr), l ∈ Oz → Pres [l] H H' → WM [l] H → (∀ a, Fz R (A ++ B) a → H a ≠ none → F' a) → Rp K H' m F' vz z' Oz' → putF s i ds z' = some s' →
        ∃ A' B', RpS K H' m F' vs s'.sl A' ∧ Rps K H' m F' (m.map V.ref) s'.ob B' ∧ (A' ++ B').Perm (Oz' ++ Or) := by
  have nd := List.nodup_append.mp l0.nd
  simp only [nlL, Bool.and_eq_true] at n
  unfold getF at e
  split at e
  · rename_i x hx
    obtain ⟨v, O, Or, e1, rv, pm, nx, put⟩ := l0.sl.nth n.1 nd.1 hx
    have ndO := List.nodup_append.mp (pm.nodup_iff.mp nd.1)
    split at e
    · rename_i l rest es
      split at e
      · rename_i y ey
        obtain ⟨a, h1, h2⟩ := split_rp rv es
        obtain ⟨w, Oc, Or2, e2, rc, pm2, nc, put2⟩ := l0.ob.nth n.2 nd.2.1 ey
        have : w = .ref a := by
          rw [List.getElem?_map, h1] at e2
          exact (Option.some.inj e2).symm
        subst this
        obtain ⟨vz, Oz, Or3, rr, rz, pm3, nz, put3⟩ := path_rp rc nc (List.nodup_append.mp (pm2.nodup_iff.mp nd.2.1)).1 e
        refine ⟨v, vz, Oz, A ++ (Or3 ++ Or2), e1, h2 _ rr, rz, ?_, nz, fun H' F' l' z' s' Oz' hl p wm hF q ep => ?_⟩
        · have : (A ++ B).Perm (A ++ (Oz ++ (Or3 ++ Or2))) := List.Perm.append_left A (pm2.trans (by rw [← List.append_assoc]; exact List.Perm.append_right Or2 pm3))
          exact this.trans pmid
        · have hlB : l' ∈ B := pm2.mem_iff.mpr (List.mem_append_left _ (pm3.mem_iff.mpr (List.mem_append_left _ hl)))
          have hn : ∀ a, Fz R (A ++ B) a → H a ≠ none → a ≠ l' := fun a f _ e => f.1 (List.mem_append_right _ (e ▸ hlB))
          unfold putF at ep
          rw [hx] at ep
          simp only [es, ey] at ep
          obtain ⟨y', ey', rfl⟩ := Option.map_eq_some_iff.mp ep
          obtain ⟨Oc', q1, q2⟩ := put3 H' F' l' z' y' Oz' hl p wm hF hn q ey'
          obtain ⟨B', q3, q4⟩ := put2 H' F' l' y' Oc' (pm3.mem_iff.mpr (List.mem_append_left _ hl)) p wm hF hn q1
          refine ⟨A, B', l0.sl.pres p wm (fun _ _ e => e) hF (fun a f ne w => hn a f ne (List.mem_singleton.mp w)) (fun a z w => nd.2.2 a z l' hlB (List.mem_singleton.mp w)) (.inr n.1), q3, ?_⟩
          have : (A ++ B').Perm (A ++ (Oz' ++ (Or3 ++ Or2))) := List.Perm.append_left A (q4.trans (by rw [← List.append_assoc]; exact List.Perm.append_right Or2 q2))
          exact this.trans pmid
      · cases e
    · rename_i es
      obtain ⟨vz, Oz, Or3, rr, rz, pm3, nz, put3⟩ := path_rp rv nx ndO.1 e
      refine ⟨v, vz, Oz, Or3 ++ Or ++ B, e1, rr, rz, ?_, nz, fun H' F' l' z' s' Oz' hl p wm hF q ep => ?_⟩
      · have : (A ++ B).Perm ((Oz ++ (Or3 ++ Or)) ++ B) := List.Perm.append_right B (pm.trans (by rw [← List.append_assoc]; exact List.Perm.append_right Or pm3))
        rw [List.append_assoc] at this
        exact this
      · have hlO : l' ∈ O := pm3.mem_iff.mpr (List.mem_append_left _ hl)
        have hlA : l' ∈ A := pm.mem_iff.mpr (List.mem_append_left _ hlO)
        have hn : ∀ a, Fz R (A ++ B) a → H a ≠ none → a ≠ l' := fun a f _ e => f.1 (List.mem_append_left _ (e ▸ hlA))
        unfold putF at ep
        rw [hx] at ep
        simp only [es] at ep
        obtain ⟨x', ex', rfl⟩ := Option.map_eq_some_iff.mp ep
        obtain ⟨O', q1, q2⟩ := put3 H' F' l' z' x' Oz' hl p wm hF hn q ex'
        obtain ⟨A', q3, q4⟩ := put H' F' l' x' O' hlO p wm hF hn q1
        refine ⟨A', B, q3, l0.ob.pres p wm (fun _ _ e => e) hF (fun a f ne w => hn a f ne (List.mem_singleton.mp w)) (fun a z w => nd.2.2 l' hlA a z (List.mem_singleton.mp w).symm) (.inr n.2), ?_⟩
        have : (A' ++ B).Perm ((Oz' ++ (Or3 ++ Or)) ++ B) := List.Perm.append_right B (q4.trans (by rw [← List.append_assoc]; exact List.Perm.append_right Or q2))
        rw [List.append_assoc] at this
        exact this
  · cases e
end

/-! ### the expression of a path -/
def tPth (Y : Yx) (i : Nat) (fp : LS → Res (List PyData)) : TE := fun vs H Q => ∃ s R m A B ds v vz, LI Y.K H R vs s m A B ∧ fp s = .ok ds ∧ vs[i]? = some (some v) ∧ Reach Y.K H v ds vz ∧ ∀ H' m' A' B', Stp Y.K H R vs s m A B false H' s m' A' B' [] → Q vz H'
abbrev SP (Y : Yx) (X : Cx) (i : Nat) (fp : LS → Res (List PyData)) (e : Expr) : Prop := PE X e (tPth Y i fp)
def rStepR (K : PySem.W.Frag) : R2 := fun x y H Q => ∃ d z, Reach K H x [d] z ∧ RD K H y d [] ∧ Q z H
section
variable {Y : Yx} {X : Cx} {ea eb : Expr} {b : Bool} {fb : EvF} {fp : LS → Res (List PyData)} {i : Nat} {pos : Pos}
theorem ix_step (hu : X.A.units + 64 < cLine) : IxR X (rStepR X.K) := by
  intro value slice pins s σ H x y v u Q I rx ry h hs
  obtain ⟨d, z, rc, rd, q⟩ := h
  cases rc with
  | lst h1 e1 r1 =>
    cases r1
    cases rd
    exact ix_list value slice pins s σ H _ _ v u Q I rx ry ⟨_, _, _, _, rfl, rfl, .inl (.inl h1), e1, q⟩ hs
  | @dic a xs _ kk w _ _ h1 ek e1 r1 =>
    cases r1
    have hy := keyOf_rd rd ek
    subst hy
    cases rx
    have g : DGet H a (kV kk) (some z) := .inl ⟨xs, kk, .inl h1, rfl, e1.symm⟩
    exact sub_any (dict_typeIs I g) PySem.F.slot_dict_getitem.lookup hs (d_getItem (by omega) I g ry fun w' s' I' r' => ⟨z, H, I', r', q⟩)
theorem sp_name {x : Str} (hN : X.N[i]? = some x) (hv : Vis X.env.scope x) (hd : (x == ("__debug__" : Str)) = false) (hcd : (x == ("__classdict__" : Str)) = false) : SP Y X i (fun _ => .ok []) (.Name x pos) := by
  refine PEw (pe_var hN hv hd hcd) fun vs H Q h => ?_
  obtain ⟨s, R, m, A, B, ds, v, vz, l, e, ev, rc, k⟩ := h
  cases e
  have e : v = vz := by cases rc; rfl
  rw [e] at ev
  exact ⟨vz, ev, k H m A B (Stp.refl l)⟩
theorem sp_ix (hK : X.K = Y.K) (hu : X.A.units + 64 < cLine) (ha : SP Y X i fp ea) (hb : SE Y X false fb eb) (hs : PlainIx eb) : SP Y X i (snocP fp fb) (.Subscript ea eb pos) := by
  refine PEw (pe_ix (ix_step hu) ha hb hs) fun vs H Q h => ?_
  obtain ⟨s, R, m, A, B, ds, v, vz, l, e, ev, rc, k⟩ := h
  unfold snocP at e
  cases e1 : fp s with
  | exc c ps s' => rw [e1] at e; cases e
  | stuck => rw [e1] at e; cases e
  | ok ds1 =>
    rw [e1] at e
    simp only [Res.bind] at e
    cases e2 : fb s with
    | exc c ps s' => rw [e2] at e; cases e
    | stuck => rw [e2] at e; cases e
    | ok p =>
      rw [e2] at e
      simp only at e
      obtain ⟨x, s2⟩ := p
      split at e
      · rename_i d ex
        simp only at ex
        subst ex
        cases e
        obtain ⟨w, r1, r2⟩ := rc.split
        refine ⟨s, R, m, A, B, ds1, v, w, l, e1, ev, r1, fun H1 m1 A1 B1 x1 => ?_⟩
        refine ⟨s, Rv R [], m1, A1, B1, x1.li, (fun z => nomatch z), ?_⟩
        rw [e2]
        intro y H2 m2 A2 B2 P x2 ry
        have hs2 : s2 = s := (x2.ef rfl).1
        simp only at x2
        rw [hs2] at x2
        have x12 := x1.seq x2.drop
        have p12 := ((x12.ef rfl).2)
        cases ry with
        | @imm _ _ as rd f =>
          have r2' := r2.pres p12
          have rd' : RD X.K H2 y d [] := by
            rw [hK]
            cases r2' with
            | lst _ _ _ => cases rd; exact .int _
            | dic _ ek _ _ =>
              cases d <;> simp [keyOf] at ek
              · cases rd; exact .int _
              · cases rd; exact .str _
          exact ⟨d, vz, by rw [hK]; exact r2', rd', k H2 m2 A2 B2 x12⟩
      · cases e
theorem rd_conv {vs : L2.St} {H : Hp} {Q : VK} (h : tG Y b (relV Y) (rdE i fp) vs H Q) : tPth Y i fp vs H Q := by
  obtain ⟨s, R, m, A, B, l, n, h⟩ := h
  unfold rdE at h
  cases e1 : fp s with
  | exc c ps s' => rw [e1] at h; exact h.elim
  | stuck => rw [e1] at h; exact h.elim
  | ok ds =>
    rw [e1] at h
    replace h : Post Y H R vs s m A B b (relV Y) (match s.sl[i]? with
      | some (some x) => match getP x ds with
        | some z => match readV s.ob z with
          | some y => Res.ok (y, s)
          | none => .stuck
        | none => .stuck
      | _ => .stuck) Q := h
    split at h
    · rename_i x hx
      split at h
      · rename_i z ez
        split at h
        · rename_i y ey
          obtain ⟨v, P, ev, rv, _⟩ := l.sl.get hx
          obtain ⟨vz, Oz, rc, rz⟩ := get_rp rv ez
          refine ⟨s, R, m, A, B, ds, v, vz, l, e1, ev, rc, fun H' m' A' B' x1 => ?_⟩
          refine h vz H' m' A' B' [] (x1.any fun _ => rfl) ?_
          have r2 := readV_rp rz l.ob ey
          have := (Stp.refl (b := false) l).keep (by rw [List.append_nil]; exact r2) (by rw [Rv_nil]; exact x1) (.inl rfl)
          simpa using this
        · exact h.elim
      · exact h.elim
    · exact h.elim
theorem se_rd (ha : SP Y X i fp ea) : SE Y X b (rdE i fp) ea := PEw ha fun vs H Q h => rd_conv h
theorem frz_conv {fa : EvF} {vs : L2.St} {H : Hp} {Q : VK} (h : tG Y b (relV Y) (frzE fa) vs H Q) : tG Y b (relV Y) fa vs H Q := by
  obtain ⟨s, R, m, A, B, l, n, h⟩ := h
  refine ⟨s, R, m, A, B, l, n, h.split id fun p hp h1 y H1 m1 A1 B1 P x1 r1 => ?_⟩
  by_cases hn : p.1.nl = true
  · rw [if_pos hn] at h1
    cases e : p.1.dat0 with
    | none => rw [e] at h1; exact h1.elim
    | some d =>
      rw [e] at h1
      obtain ⟨as, rd, f⟩ := r1.rd0 e
      refine h1 y H1 m1 A1 B1 [] x1.drop (.imm rd fun a z => ?_)
      rw [List.append_nil]
      rcases f a z with w | w | w
      · exact ⟨fun u => w.1 (List.mem_append_left _ u), w.2⟩
      · exact ⟨fun u => x1.disj a u w, x1.nr a w⟩
      · rw [hn] at w; cases w
  · rw [if_neg hn] at h1; exact h1.elim
theorem se_frz {fa : EvF} (ha : SE Y X b fa ea) : SE Y X b (frzE fa) ea := PEw ha fun vs H Q h => frz_conv h
end
end MP
/-! MP.22: own things at paths: changed -/
namespace MP
open PySem PySem.Spec PyProof.Rows L2

theorem Reach.det {K : PySem.W.Frag} {H : Hp} {v a : V} {ds : List PyData} (r : Reach K H v ds a) : ∀ {b : V}, Reach K H v ds b → a = b := by
  induction r with
  | nil => intro b q; cases q; rfl
  | lst h e _ ih =>
    intro b q
    cases q with
    | lst h' e' q => rw [h] at h'; cases h'; rw [e] at e'; cases e'; exact ih q
    | dic h' ek e' q => rw [h] at h'; cases h'
  | dic h ek e _ ih =>
    intro b q
    cases q with
    | lst h' e' q => rw [h] at h'; cases h'
    | dic h' ek' e' q => rw [h] at h'; cases h'; rw [ek] at ek'; cases ek'; rw [e] at e'; cases e'; exact ih q

/-! nothing lent comes in -/
theorem nls_at {xs : List LV} {j : Nat} {c : LV} (n : LV.nls xs = true) (e : xs[j]? = some c) : c.nl = true := by
  induction xs generalizing j with
  | nil => simp at e
  | cons x xs ih =>
    simp only [LV.nls, Bool.and_eq_true] at n
    cases j with
    | zero => simp at e; subst e; exact n.1
    | succ j => exact ih n.2 (by simpa using e)
theorem nls_set {xs : List LV} {j : Nat} {c : LV} (n : LV.nls xs = true) (nc : c.nl = true) : LV.nls (xs.set j c) = true := by
  induction xs generalizing j with
  | nil => simpa using n
  | cons x xs ih =>
    simp only [LV.nls, Bool.and_eq_true] at n
    cases j with
    | zero => simp [LV.nls, nc, n.2]
    | succ j => simp [LV.nls, n.1, ih n.2]
theorem nlk_set {ks : List (Key × LV)} {k : Key} {c : LV} (n : LV.nlk ks = true) (nc : c.nl = true) : LV.nlk (setK ks k c) = true := by
  induction ks with
  | nil => simp [setK, LV.nlk, nc]
  | cons x xs ih =>
    obtain ⟨k', x⟩ := x
    simp only [LV.nlk, Bool.and_eq_true] at n
    unfold setK
    split <;> simp [LV.nlk, nc, n.1, n.2, ih n.2]
theorem nlk_look {ks : List (Key × LV)} {k : Key} {c : LV} (n : LV.nlk ks = true) (e : lookK ks k = some c) : c.nl = true := by
  induction ks with
  | nil => simp [lookK] at e
  | cons x xs ih =>
    obtain ⟨k', x⟩ := x
    simp only [LV.nlk, Bool.and_eq_true] at n
    unfold lookK at e
    split at e
    · cases e; exact n.1
    · exact ih n.2 e
theorem stepL_nl {x c : LV} {d : PyData} (e : stepL x d = some c) (n : x.nl = true) : c.nl = true := by
  unfold stepL at e
  split at e
  · obtain ⟨j, _, ec, _⟩ := atI_two (vs := (List.replicate _ ())) (by simp; rfl) e
    exact nls_at (by simpa [LV.nl] using n) ec
  · split at e
    · exact nlk_look (by simpa [LV.nl] using n) e
    · cases e
  · cases e
theorem putL_nl {x c x' : LV} {d : PyData} (e : putL x d c = some x') (n : x.nl = true) (nc : c.nl = true) : x'.nl = true := by
  unfold putL at e
  split at e
  · obtain ⟨j, _, rfl⟩ := Option.map_eq_some_iff.mp e
    simpa [LV.nl] using nls_set (by simpa [LV.nl] using n) nc
  · obtain ⟨j, _, rfl⟩ := Option.map_eq_some_iff.mp e
    simpa [LV.nl] using nlk_set (by simpa [LV.nl] using n) nc
  · cases e
theorem putP_nl : ∀ {ds : List PyData} {x z x' : LV}, putP x ds z = some x' → x.nl = true → z.nl = true → x'.nl = true
  | [], x, z, x', e, _, nz => by unfold putP at e; cases e; exact nz
  | d :: ds, x, z, x', e, n, nz => by
    unfold putP at e
    split at e
    · rename_i c ec
      split at e
      · rename_i c' ec'
        exact putL_nl e n (putP_nl ec' (stepL_nl ec n) nz)
      · cases e
    · cases e
theorem nlS_at {sl : List (Option LV)} {i : Nat} {x : LV} (n : nlS sl = true) (e : sl[i]? = some (some x)) : x.nl = true := by
  induction sl generalizing i with
  | nil => simp at e
  | cons z zs ih =>
    cases i with
    | zero => simp at e; subst e; simp [nlS] at n; exact n.1
    | succ i =>
      refine ih ?_ (by simpa using e)
      cases z with
      | none => simpa [nlS] using n
      | some z => simp [nlS] at n; exact n.2
theorem putF_nl {s s' : LS} {i : Nat} {ds : List PyData} {z : LV} (e : putF s i ds z = some s') (n : nlL s = true) (nz : z.nl = true) : nlL s' = true := by
  simp only [nlL, Bool.and_eq_true] at n ⊢
  unfold putF at e
  split at e
  · rename_i x hx
    split at e
    · split at e
      · rename_i y ey
        obtain ⟨y', ey', rfl⟩ := Option.map_eq_some_iff.mp e
        exact ⟨n.1, nls_set n.2 (putP_nl ey' (nls_at n.2 ey) nz)⟩
      · cases e
    · obtain ⟨x', ex', rfl⟩ := Option.map_eq_some_iff.mp e
      exact ⟨nlS_set n.1 i _ fun y e => (by cases e; exact putP_nl ex' (nlS_at n.1 hx) nz), n.2⟩
  · cases e

structure MutR (K : PySem.W.Frag) (r : V → List V → Hp → VK → Prop) (g : LV → List LV → Option (LV × LV)) : Prop where
  lst : ∀ {z : LV} {args : List LV} {p : LV × LV}, g z args = some p → ∃ xs, z = .lst xs
  nl : ∀ {xs args : List LV} {z' y : LV}, g (.lst xs) args = some (z', y) → LV.nls xs = true → nlAll args = true → z'.nl = true ∧ y.nl = true
  ok : ∀ {H : Hp} {m : List Addr} {F : Addr → Prop} {a : Addr} {us vs : List V} {xs args : List LV} {O P : List Addr} {z' y : LV}, H a = some (.lst us) → Rps K H m F us xs O → Rps K H m F vs args P → g (.lst xs) args = some (z', y) →
    ∃ us' xs' yv O' Oy, z' = .lst xs' ∧ Rps K H m F us' xs' O' ∧ Rp K H m F yv y Oy ∧ Sub (Oy ++ O') (O ++ P) ∧ ∀ Q : VK, Q yv (upd H a (.lst us')) → r (.ref a) vs H Q

section
variable {Y : Yx} {X : Cx} {ea : Expr} {es : List Expr} {b bA bad : Bool} {fp : LS → Res (List PyData)} {fA : LS → Res (List LV × LS)} {i : Nat} {pos : Pos} {g : LV → List LV → Option (LV × LV)} {r : V → List V → Hp → VK → Prop}
/-- behind the change -/
theorem Stp.put {H H2 : Hp} {R : Addr → Prop} {vs : L2.St} {s s2 s' : LS} {m A B m2 A2 B2 P Or O' Oy Oz1 A3 B3 : List Addr} {a : Addr} {o : HO} (x : Stp Y.K H R vs s m A B b H2 s2 m2 A2 B2 P)
    (pm : (A2 ++ B2).Perm ((a :: Oz1) ++ Or)) (sb : Sub (Oy ++ O') (Oz1 ++ P)) (r1 : RpS Y.K (upd H2 a o) m2 (Fz R ((a :: O') ++ Or ++ Oy)) vs s'.sl A3) (r2 : Rps Y.K (upd H2 a o) m2 (Fz R ((a :: O') ++ Or ++ Oy)) (m2.map V.ref) s'.ob B3) (pm3 : (A3 ++ B3).Perm ((a :: O') ++ Or)) (hn : nlL s' = true) :
    Stp Y.K H R vs s m A B true (upd H2 a o) s' m2 A3 B3 Oy := by
  have nd2 := List.nodup_append.mp (pm.nodup_iff.mp x.li.nd)
  have inA : ∀ {b}, b ∈ (a :: Oz1) ++ Or → b ∈ A2 ++ B2 := fun z => pm.mem_iff.mpr z
  have aA : a ∈ A2 ++ B2 := inA (List.mem_append_left _ List.mem_cons_self)
  obtain ⟨naz, ndz⟩ := List.nodup_cons.mp nd2.1
  have ndZP : (Oz1 ++ P).Nodup := List.nodup_append.mpr ⟨ndz, x.nd, fun b h1 c h2 e => x.disj c (inA (List.mem_append_left _ (List.mem_cons_of_mem _ (e ▸ h1)))) h2⟩
  have ndS := List.nodup_append.mp (sb.nodup ndZP)
  have src : ∀ b, b ∈ Oy ∨ b ∈ O' → b ∈ Oz1 ∨ b ∈ P := fun b z => List.mem_append.mp (sb.mem (z.elim (List.mem_append_left _) (List.mem_append_right _)))
  have src2 : ∀ b, b ∈ Oy ∨ b ∈ O' → b ∈ A2 ++ B2 ∨ b ∈ P := fun b z => (src b z).imp (fun z => inA (List.mem_append_left _ (List.mem_cons_of_mem _ z))) id
  have na : ∀ b, b ∈ Oy ∨ b ∈ O' → b ≠ a := fun b z e => by
    rcases src b z with z | z
    · exact naz (e ▸ z)
    · exact x.disj a aA (e ▸ z)
  have nor : ∀ b, b ∈ Oy ∨ b ∈ O' → b ∉ Or := fun b z w => by
    rcases src b z with z | z
    · exact nd2.2.2 b (List.mem_cons_of_mem _ z) b w rfl
    · exact x.disj b (inA (List.mem_append_right _ w)) z
  have dm' : ∀ c, H2 c ≠ none → (upd H2 a o) c ≠ none := fun c n => by
    by_cases e : c = a
    · rw [e, upd_same]; exact fun z => nomatch z
    · rw [upd_ne e]; exact n
  have exO : ∀ b, b ∈ Oy ∨ b ∈ O' → H2 b ≠ none := fun b z => (src2 b z).elim (x.li.exists b) (x.ex b)
  have m3 : ∀ {b}, b ∈ A3 ++ B3 → b = a ∨ b ∈ O' ∨ b ∈ Or := fun z => by
    rcases List.mem_append.mp (pm3.mem_iff.mp z) with z | z
    · exact (List.mem_cons.mp z).imp id .inl
    · exact .inr (.inr z)
  have nRO : ∀ b, b ∈ A2 ++ B2 ∨ b ∈ P → ¬ R b := fun b z => z.elim (fun z w => x.li.nr b z (.inl w)) (x.nr b)
  have m3' : ∀ {b}, b ∈ A3 ++ B3 → b ∈ A2 ++ B2 ∨ b ∈ P := fun z => by
    rcases m3 z with z | z | z
    · rw [z]; exact .inl aA
    · exact src2 _ (.inr z)
    · exact .inl (inA (List.mem_append_right _ z))
  have F1 : ∀ b, Fz R ((a :: O') ++ Or ++ Oy) b → Fz (Rv R Oy) (A3 ++ B3) b := fun b f => ⟨fun w => f.1 (List.mem_append_left _ (pm3.mem_iff.mp w)), fun w => w.elim f.2 fun w => f.1 (List.mem_append_right _ w)⟩
  refine ⟨⟨?_, ?_, ?_, fun b z w => ?_, fun b z => ?_⟩, ndS.1, fun b z => nRO b (src2 b (.inl z)), fun b z => dm' b (exO b (.inl z)), ?_, fun c n => dm' c (x.dm c n), fun b z => ?_, x.mm, fun _ => hn, fun z => nomatch z⟩
  · exact r1.pres (W := []) Pres.refl (fun b z => nomatch z) (fun _ _ e => e) (fun a f _ => F1 a f) (fun _ _ _ z => nomatch z) (fun _ _ z => nomatch z) (.inl rfl)
  · exact r2.fz' F1
  · refine pm3.nodup_iff.mpr (List.nodup_append.mpr ⟨List.nodup_cons.mpr ⟨fun z => na a (.inr z) rfl, ndS.2.1⟩, nd2.2.1, fun b h1 c h2 e => ?_⟩)
    subst e
    rcases List.mem_cons.mp h1 with h1 | h1
    · rw [h1] at h2; exact nd2.2.2 a List.mem_cons_self a h2 rfl
    · exact nor b (.inr h1) h2
  · rcases w with w | w
    · exact nRO b (m3' z) w
    · rcases m3 z with z | z | z
      · exact na b (.inl w) z
      · exact ndS.2.2 b w b z rfl
      · exact nor b (.inl w) z
  · rcases z with z | z
    · exact dm' b (x.li.rs b (.inl z))
    · exact dm' b (exO b (.inl z))
  · exact x.pr.trans Pres.upd fun b z => by rw [List.mem_singleton.mp z]; exact x.gr a (.inl aA)
  · have up : b ∈ A2 ++ B2 ∨ b ∈ P → b ∈ A ++ B ∨ H b = none := fun w => w.elim (fun w => x.gr b (.inl w)) fun w => x.gr b (.inr w)
    exact up (z.elim m3' fun z => src2 b (.inl z))
theorem mut_conv {vs : L2.St} {H : Hp} {Q : VK} (hr : MutR Y.K r g) (hp : bad = false → bA = true → ∀ s, fp s = .ok []) (h : tG Y true (relV Y) (mutE i bad g fp fA) vs H Q) : tBM Y.K "list" r (tPth Y i fp) (tG Y bA (relVs Y) fA) vs H Q := by
  obtain ⟨s, R, m, A, B, l, n, h⟩ := h
  have n := n rfl
  unfold mutE at h
  cases hb : bad with
  | true => rw [hb] at h; exact h.elim
  | false =>
    rw [hb] at h
    simp only [Bool.false_eq_true, if_false] at h
    cases e1 : fp s with
    | exc c ps s' => rw [e1] at h; exact h.elim
    | stuck => rw [e1] at h; exact h.elim
    | ok ds =>
      rw [e1] at h
      simp only [noExc, Res.bind] at h
      cases e2 : getF s i ds with
      | none => rw [e2] at h; exact h.elim
      | some z0 =>
        rw [e2] at h
        cases z0 with
        | lst xs0 =>
          simp only [isLst, Bool.true_eq_false, if_false] at h
          obtain ⟨v, vz0, Oz0, Or0, ev, rc0, rz0, _, _, _⟩ := focus_rp l n e2
          cases rz0 with
          | @lst a us0 _ O0 hA0 rz0 =>
            refine ⟨s, R, m, A, B, ds, v, _, l, e1, ev, rc0, fun H1 m1 A1 B1 x1 => ⟨.inl ⟨rfl, us0, .inl (.inl ((x1.ef rfl).2 _ _ hA0 fun z => nomatch z))⟩, ?_⟩⟩
            refine ⟨s, Rv R [], m1, A1, B1, x1.li, fun _ => n, ?_⟩
            replace h : Post Y H R vs s m A B true (relV Y) ((fA s).bind fun q => match getF q.2 i ds with
              | some z => if nlAll q.1 then match g z q.1 with
                  | some (z', y) => match putF q.2 i ds z' with
                    | some s' => .ok (y, s')
                    | none => .stuck
                  | none => .stuck
                else .stuck
              | none => .stuck) Q := h
            refine Post.next (b := true) (b1 := false) (b2 := bA) x1 (fun z => by cases z) h fun p hq h2 ys H2 m2 A2 B2 P2 x2 r2 => ?_
            cases e3 : getF p.2 i ds with
            | none => rw [e3] at h2; exact h2.elim
            | some z =>
              rw [e3] at h2
              simp only at h2
              by_cases na : nlAll p.1 = true
              case neg => rw [if_neg na] at h2; exact h2.elim
              rw [if_pos na] at h2
              cases e4 : g z p.1 with
              | none => rw [e4] at h2; exact h2.elim
              | some q =>
                obtain ⟨z', y⟩ := q
                rw [e4] at h2
                simp only at h2
                cases e5 : putF p.2 i ds z' with
                | none => rw [e5] at h2; exact h2.elim
                | some s' =>
                  rw [e5] at h2
                  obtain ⟨xs, rfl⟩ := hr.lst e4
                  obtain ⟨v', vz, Oz, Or, ev', rc, rz, pm, nz, put⟩ := focus_rp x2.li (x2.nl n) e3
                  rw [ev] at ev'
                  cases ev'
                  have same : vz = .ref a := by
                    cases hba : bA with
                    | true =>
                      have e := hp hb hba s
                      rw [e1] at e
                      cases e
                      cases rc
                      cases rc0
                      rfl
                    | false => exact rc.det ((rc0.pres (x1.ef rfl).2).pres (x2.ef hba).2)
                  subst same
                  cases rz with
                  | @lst _ us _ Oz1 hA rz =>
                    have F0 : ∀ c, Fz (Rv (Rv R []) P2) (A2 ++ B2) c → Fz R (A2 ++ B2 ++ P2) c := fun c f => ⟨fun w => (List.mem_append.mp w).elim f.1 fun w => f.2 (.inr w), fun w => f.2 (.inl (.inl w))⟩
                    have F1 : ∀ c, Fz (Rv R []) (A2 ++ B2 ++ P2) c → Fz R (A2 ++ B2 ++ P2) c := fun c f => ⟨f.1, fun w => f.2 (.inl w)⟩
                    obtain ⟨us', xs', yv, O', Oy, rfl, rx, ry, sb, fin⟩ := hr.ok hA (rz.fz' F0) (r2.fz F1) e4
                    refine fin _ ?_
                    have xx := x1.seq x2
                    have e0 : [] ++ P2 = P2 := rfl
                    rw [e0] at xx
                    have nzx : LV.nls xs = true := by simpa [LV.nl] using nz
                    obtain ⟨nz', ny⟩ := hr.nl e4 nzx na
                    have nd2 := List.nodup_append.mp (pm.nodup_iff.mp x2.li.nd)
                    have inA : ∀ {b}, b ∈ (a :: Oz1) ++ Or → b ∈ A2 ++ B2 := fun z => pm.mem_iff.mpr z
                    have aA : a ∈ A2 ++ B2 := inA (List.mem_append_left _ List.mem_cons_self)
                    have src : ∀ b, b ∈ Oy ∨ b ∈ O' → b ∈ A2 ++ B2 ++ P2 := fun b z => (List.mem_append.mp (sb.mem (z.elim (List.mem_append_left _) (List.mem_append_right _)))).elim (fun z => List.mem_append_left _ (inA (List.mem_append_left _ (List.mem_cons_of_mem _ z)))) (List.mem_append_right _)
                    have F2 : ∀ c, Fz R (A2 ++ B2 ++ P2) c → Fz R ((a :: O') ++ Or ++ Oy) c := fun c f => ⟨fun w => f.1 (by
                      rcases List.mem_append.mp w with w | w
                      · rcases List.mem_append.mp w with w | w
                        · rcases List.mem_cons.mp w with w | w
                          · rw [w]; exact List.mem_append_left _ aA
                          · exact src c (.inr w)
                        · exact List.mem_append_left _ (inA (List.mem_append_right _ w))
                      · exact src c (.inl w)), f.2⟩
                    have pu : Pres [a] H2 (upd H2 a (.lst us')) := Pres.upd
                    have wa : WM [a] H2 := fun b z => by rw [List.mem_singleton.mp z]; exact .inl ⟨_, hA⟩
                    have naO : ∀ b, b ∈ Oy ∨ b ∈ O' → b ∉ [a] := fun b z w => by
                      have e := List.mem_singleton.mp w
                      rcases List.mem_append.mp (sb.mem (z.elim (List.mem_append_left _) (List.mem_append_right _))) with q | q
                      · exact (List.nodup_cons.mp nd2.1).1 (e ▸ q)
                      · exact x2.disj a aA (e ▸ q)
                    have nfa : ∀ c, Fz R (A2 ++ B2 ++ P2) c → H2 c ≠ none → c ∉ [a] := fun c f _ w => f.1 (by rw [List.mem_singleton.mp w]; exact List.mem_append_left _ aA)
                    have rx' : Rps Y.K (upd H2 a (.lst us')) m2 (Fz R ((a :: O') ++ Or ++ Oy)) us' xs' O' := rx.pres pu wa (fun _ _ e => e) (fun c f _ => F2 c f) nfa (fun b z => naO b (.inr z)) (.inr (by simpa [LV.nl] using nz'))
                    obtain ⟨A3, B3, q1, q2, q3⟩ := put (upd H2 a (.lst us')) (Fz R ((a :: O') ++ Or ++ Oy)) a (.lst xs') s' (a :: O') List.mem_cons_self pu wa (fun c f _ => F2 c (F0 c f)) (.lst upd_same rx') e5
                    have st := xx.put pm sb q1 q2 q3 (putF_nl e5 (x2.nl n) nz')
                    refine h2 yv _ m2 A3 B3 Oy st ?_
                    refine ry.pres pu wa (fun _ _ e => e) (fun c f _ => ?_) nfa (fun b z => naO b (.inl z)) (.inr ny)
                    have f2 := F2 c f
                    exact ⟨fun w => f2.1 ((List.mem_append.mp w).elim (fun w => List.mem_append_left _ (q3.mem_iff.mp w)) (List.mem_append_right _)), f2.2⟩
        | _ => exact h.elim
end
end MP
/-! MP.23: the changes of lists; o[k] = x; dict displays -/
namespace MP
open PySem PySem.Spec PyProof.Rows L2

theorem mutG_lst {op : MO} {z : LV} {args : List LV} {p : LV × LV} (e : mutG op z args = some p) : ∃ xs, z = .lst xs := by
  unfold mutG at e
  split at e <;> first | exact ⟨_, rfl⟩ | cases e
theorem nls_app {xs ys : List LV} (a : LV.nls xs = true) (b : LV.nls ys = true) : LV.nls (xs ++ ys) = true := by
  induction xs with
  | nil => exact b
  | cons x xs ih =>
    simp only [LV.nls, Bool.and_eq_true] at a
    simp [LV.nls, a.1, ih a.2]
theorem nls_take {xs : List LV} (a : LV.nls xs = true) : ∀ k : Nat, LV.nls (xs.take k) = true := by
  induction xs with
  | nil => intro k; simp [LV.nls]
  | cons x xs ih =>
    simp only [LV.nls, Bool.and_eq_true] at a
    intro k
    cases k with
    | zero => simp [LV.nls]
    | succ k => simp [LV.nls, a.1, ih a.2 k]
theorem nls_drop {xs : List LV} (a : LV.nls xs = true) : ∀ k : Nat, LV.nls (xs.drop k) = true := by
  induction xs with
  | nil => intro k; simp [LV.nls]
  | cons x xs ih =>
    simp only [LV.nls, Bool.and_eq_true] at a
    intro k
    cases k with
    | zero => simp [LV.nls, a.1, a.2]
    | succ k => simp [ih a.2 k]
theorem nls_imm (ds : List PyData) : LV.nls (ds.map LV.imm) = true := by induction ds <;> simp_all [LV.nls, LV.nl]
theorem nls_ints (ns : List Int) : LV.nls (ns.map fun n => LV.imm (.int n)) = true := by induction ns <;> simp_all [LV.nls, LV.nl]
theorem nls_erase {xs : List LV} (a : LV.nls xs = true) : ∀ k : Nat, LV.nls (xs.eraseIdx k) = true := by
  induction xs with
  | nil => intro k; simp [LV.nls]
  | cons x xs ih =>
    simp only [LV.nls, Bool.and_eq_true] at a
    intro k
    cases k with
    | zero => simp [a.2]
    | succ k => simp [LV.nls, a.1, ih a.2 k]
section
variable {K : PySem.W.Frag} {H : Hp} {m : List Addr} {F : Addr → Prop}
theorem Rps.app {us vs : List V} {xs ys : List LV} {O P : List Addr} (a : Rps K H m F us xs O) (b : Rps K H m F vs ys P) : Rps K H m F (us ++ vs) (xs ++ ys) (O ++ P) := by
  induction xs generalizing us O with
  | nil => cases a; exact b
  | cons x xs ih =>
    cases a with
    | cons r t =>
      rw [List.append_assoc]
      exact .cons r (ih t)
theorem Rps.imms {us : List V} {ds : List PyData} {as : List Addr} (r : RDs K H us ds as) (f : ∀ a ∈ as, F a) : Rps K H m F us (ds.map .imm) [] := by
  induction ds generalizing us as with
  | nil => cases r; exact .nil
  | cons d ds ih =>
    cases r with
    | cons r t => exact Rps.cons (O := []) (.imm r fun a z => f a (List.mem_append_left _ z)) (ih t fun a z => f a (List.mem_append_right _ z))
theorem Rps.one {vs : List V} {y : LV} {P : List Addr} (r : Rps K H m F vs [y] P) : ∃ v, vs = [v] ∧ Rp K H m F v y P := by
  cases r with
  | cons r t => cases t; rw [List.append_nil]; exact ⟨_, rfl, r⟩
theorem Rps.take {us : List V} {xs : List LV} {O : List Addr} (r : Rps K H m F us xs O) : ∀ k : Nat, ∃ O1 O2, Rps K H m F (us.take k) (xs.take k) O1 ∧ Rps K H m F (us.drop k) (xs.drop k) O2 ∧ O = O1 ++ O2 := by
  induction xs generalizing us O with
  | nil => cases r; intro k; exact ⟨[], [], by simpa using Rps.nil, by simpa using Rps.nil, rfl⟩
  | cons x xs ih =>
    cases r with
    | @cons v us _ _ O P r t =>
      intro k
      cases k with
      | zero => exact ⟨[], O ++ P, by simpa using Rps.nil, by simpa using Rps.cons r t, rfl⟩
      | succ k =>
        obtain ⟨O1, O2, h1, h2, e⟩ := ih t k
        exact ⟨O ++ O1, O2, by simpa using Rps.cons r h1, by simpa using h2, by rw [e, List.append_assoc]⟩
theorem Rps.erase {us : List V} {xs : List LV} {O : List Addr} (r : Rps K H m F us xs O) : ∀ {k : Nat} {y : LV}, xs[k]? = some y → ∃ v Oy O', us[k]? = some v ∧ Rp K H m F v y Oy ∧ Rps K H m F (us.eraseIdx k) (xs.eraseIdx k) O' ∧ O.Perm (Oy ++ O') := by
  induction xs generalizing us O with
  | nil => intro k y e; simp at e
  | cons x xs ih =>
    intro k y e
    cases r with
    | @cons v us _ _ O P r t =>
      cases k with
      | zero => simp at e; subst e; exact ⟨v, O, P, rfl, r, by simpa using t, List.Perm.refl _⟩
      | succ k =>
        obtain ⟨w, Oy, O', h1, h2, h3, h4⟩ := ih t (by simpa using e)
        refine ⟨w, Oy, O ++ O', by simpa using h1, h2, by simpa using Rps.cons r h3, ?_⟩
        exact (List.Perm.append_left O h4).trans pmid
theorem allInts_rp : ∀ {xs : List LV} {us : List V} {O : List Addr} {ns : List Int}, Rps K H m F us xs O → allInts xs = some ns → us = ns.map V.int ∧ O = []
  | [], _, _, ns, .nil, e => by cases e; exact ⟨rfl, rfl⟩
  | x :: xs, _, _, ns, .cons r t, e => by
    cases r with
    | @imm _ d _ r f =>
      cases d with
      | int k =>
        obtain ⟨ms, e1, rfl⟩ := Option.map_eq_some_iff.mp (show (allInts xs).map (k :: ·) = some ns from e)
        obtain ⟨rfl, rfl⟩ := allInts_rp t e1
        cases r
        exact ⟨rfl, rfl⟩
      | _ => cases e
    | _ => cases e
theorem ints_rp (ns : List Int) : Rps K H m F (ns.map V.int) (ns.map fun n => .imm (.int n)) [] := by
  induction ns with
  | nil => exact .nil
  | cons n ns ih => exact Rps.cons (O := []) (.imm (as := []) (.int n) fun _ z => nomatch z) ih
theorem non_rp : Rp K H m F .non (.imm .none) [] := .imm (as := []) .non fun _ z => nomatch z
end

/-- a list is lengthened by a tuple's items -/
def rExtT (K : PySem.W.Frag) : V → List V → Hp → VK → Prop := fun x vs H Q => ∃ l b xs zs, x = .ref l ∧ vs = [.ref b] ∧ H l = some (.lst xs) ∧ SqN K H b zs ∧ xs.length + zs.length ≤ sizeLine ∧ Q .non (upd H l (.lst (xs ++ zs)))
def mutR (K : PySem.W.Frag) (op : MO) : V → List V → Hp → VK → Prop := match op with
  | .append => rAppend
  | .extend => fun x vs H Q => rExtend x vs H Q ∨ rExtT K x vs H Q
  | .insert => fun x vs H Q => ∃ (l : Addr) (xs : List V) (i : Int) (y : V), x = .ref l ∧ vs = [.int i, y] ∧ H l = some (.lst xs) ∧ xs.length < sizeLine ∧ 0 ≤ i ∧ i < 2 ^ 63 ∧ Q .non (upd H l (.lst (xs.take i.toNat ++ [y] ++ xs.drop i.toNat)))
  | .remove => rRemI
  | .pop => fun x vs H Q => rPop x vs H Q ∨ rPopAt x vs H Q
theorem eq_append {xs args : List LV} {p : LV × LV} (e : mutG .append (.lst xs) args = some p) : ∃ y, args = [y] ∧ xs.length < sizeLine ∧ p = (.lst (xs ++ [y]), .imm .none) := by
  match args, e with
  | [], e => simp [mutG] at e
  | [y], e => simp [mutG] at e; exact ⟨y, rfl, e.1, e.2.symm⟩
  | _ :: _ :: _, e => simp [mutG] at e
theorem eq_extend {xs args : List LV} {p : LV × LV} (e : mutG .extend (.lst xs) args = some p) : (∃ ys, args = [.lst ys] ∧ xs.length + ys.length ≤ sizeLine ∧ p = (.lst (xs ++ ys), .imm .none)) ∨ (∃ ds, args = [.imm (.list ds)] ∧ xs.length + ds.length ≤ sizeLine ∧ p = (.lst (xs ++ ds.map .imm), .imm .none)) ∨ ∃ ds, args = [.imm (.tuple ds)] ∧ xs.length + ds.length ≤ sizeLine ∧ p = (.lst (xs ++ ds.map .imm), .imm .none) := by
  match args, e with
  | [], e => simp [mutG] at e
  | [.lst ys], e => simp [mutG] at e; exact .inl ⟨ys, rfl, e.1, e.2.symm⟩
  | [.imm (.list ds)], e => simp [mutG] at e; exact .inr (.inl ⟨ds, rfl, e.1, e.2.symm⟩)
  | [.imm (.tuple ds)], e => simp [mutG] at e; exact .inr (.inr ⟨ds, rfl, e.1, e.2.symm⟩)
  | [.imm .none], e | [.imm (.bool _)], e | [.imm (.int _)], e | [.imm (.str _)], e | [.imm (.dict _)], e | [.dic _], e | [.tup _], e | [.ref _], e | [.lent _], e => simp [mutG] at e
  | _ :: _ :: _, e => simp [mutG] at e
theorem eq_insert {xs args : List LV} {p : LV × LV} (e : mutG .insert (.lst xs) args = some p) : ∃ i y, args = [.imm (.int i), y] ∧ (xs.length < sizeLine ∧ 0 ≤ i ∧ i < 2 ^ 63) ∧ p = (.lst (xs.take i.toNat ++ [y] ++ xs.drop i.toNat), .imm .none) := by
  match args, e with
  | [], e => simp [mutG] at e
  | [_], e => simp [mutG] at e
  | [x, y], e =>
    match x, e with
    | .imm (.int i), e =>
      replace e : (if decide (xs.length < sizeLine ∧ 0 ≤ i ∧ i < 2 ^ 63) = true then some (LV.lst (xs.take i.toNat ++ [y] ++ xs.drop i.toNat), LV.imm .none) else none) = some p := e
      by_cases h : decide (xs.length < sizeLine ∧ 0 ≤ i ∧ i < 2 ^ 63) = true
      · rw [if_pos h] at e
        exact ⟨i, y, rfl, of_decide_eq_true h, (Option.some.inj e).symm⟩
      · rw [if_neg h] at e; cases e
    | .imm .none, e | .imm (.bool _), e | .imm (.list _), e | .imm (.str _), e | .imm (.tuple _), e | .imm (.dict _), e | .dic _, e | .tup _, e | .ref _, e | .lent _, e | .lst _, e => simp [mutG] at e
  | _ :: _ :: _ :: _, e => simp [mutG] at e
theorem eq_remove {xs args : List LV} {p : LV × LV} (e : mutG .remove (.lst xs) args = some p) : ∃ k ns, args = [.imm (.int k)] ∧ allInts xs = some ns ∧ k ∈ ns ∧ p = (.lst ((ns.erase k).map fun n => .imm (.int n)), .imm .none) := by
  match args, e with
  | [], e => simp [mutG] at e
  | [.imm (.int k)], e =>
    replace e : (match allInts xs with
      | some ns => if k ∈ ns then some (LV.lst ((ns.erase k).map fun n => .imm (.int n)), LV.imm .none) else none
      | none => none) = some p := e
    cases h : allInts xs with
    | none => rw [h] at e; cases e
    | some ns =>
      rw [h] at e
      simp only at e
      by_cases hk : k ∈ ns
      · rw [if_pos hk] at e; exact ⟨k, ns, rfl, rfl, hk, (Option.some.inj e).symm⟩
      · rw [if_neg hk] at e; cases e
  | [.imm .none], e | [.imm (.bool _)], e | [.imm (.list _)], e | [.imm (.str _)], e | [.imm (.tuple _)], e | [.imm (.dict _)], e | [.dic _], e | [.tup _], e | [.ref _], e | [.lent _], e | [.lst _], e => simp [mutG] at e
  | _ :: _ :: _, e => simp [mutG] at e
theorem eq_pop {xs args : List LV} {p : LV × LV} (e : mutG .pop (.lst xs) args = some p) : (args = [] ∧ ∃ y, xs[xs.length - 1]? = some y ∧ p = (.lst xs.dropLast, y)) ∨ ∃ i j y, args = [.imm (.int i)] ∧ (-(2 ^ 63) ≤ i ∧ i < 2 ^ 63) ∧ ixN xs.length i = some j ∧ xs[j]? = some y ∧ p = (.lst (xs.eraseIdx j), y) := by
  match args, e with
  | [], e =>
    replace e : (match xs[xs.length - 1]? with
      | some y => some (LV.lst xs.dropLast, y)
      | none => none) = some p := e
    cases h : xs[xs.length - 1]? with
    | none => rw [h] at e; cases e
    | some y => rw [h] at e; cases e; exact .inl ⟨rfl, y, rfl, rfl⟩
  | [.imm (.int i)], e =>
    replace e : (if decide (-(2 ^ 63) ≤ i ∧ i < 2 ^ 63) = true then match ixN xs.length i with
      | some j => match xs[j]? with
        | some y => some (LV.lst (xs.eraseIdx j), y)
        | none => none
      | none => none
    else none) = some p := e
    by_cases hi : decide (-(2 ^ 63) ≤ i ∧ i < 2 ^ 63) = true
    · rw [if_pos hi] at e
      cases h : ixN xs.length i with
      | none => rw [h] at e; cases e
      | some j =>
        rw [h] at e
        simp only at e
        cases h2 : xs[j]? with
        | none => rw [h2] at e; cases e
        | some y => rw [h2] at e; cases e; exact .inr ⟨i, j, y, rfl, of_decide_eq_true hi, h, h2, rfl⟩
    · rw [if_neg hi] at e; cases e
  | [.imm .none], e | [.imm (.bool _)], e | [.imm (.list _)], e | [.imm (.str _)], e | [.imm (.tuple _)], e | [.imm (.dict _)], e | [.dic _], e | [.tup _], e | [.ref _], e | [.lent _], e | [.lst _], e => simp [mutG] at e
  | _ :: _ :: _, e => simp [mutG] at e

theorem mutG_nl {op : MO} {xs args : List LV} {z' y : LV} (e : mutG op (.lst xs) args = some (z', y)) (n : LV.nls xs = true) (na : nlAll args = true) : z'.nl = true ∧ y.nl = true := by
  cases op with
  | append =>
    obtain ⟨y, rfl, _, e⟩ := eq_append e
    cases e
    simp only [nlAll, List.all_cons, List.all_nil, Bool.and_true] at na
    exact ⟨by simpa [LV.nl] using nls_app n (show LV.nls [_] = true by simp [LV.nls, na]), rfl⟩
  | extend =>
    rcases eq_extend e with ⟨ys, rfl, hz, e⟩ | ⟨ds, rfl, hz, e⟩ | ⟨ds, rfl, hz, e⟩
    · cases e
      simp only [nlAll, List.all_cons, List.all_nil, Bool.and_true] at na
      exact ⟨by simpa [LV.nl] using nls_app n (by simpa [LV.nl] using na), rfl⟩
    · cases e
      exact ⟨by simpa [LV.nl] using nls_app n (nls_imm ds), rfl⟩
    · cases e
      exact ⟨by simpa [LV.nl] using nls_app n (nls_imm ds), rfl⟩
  | insert =>
    obtain ⟨i, x, rfl, _, e⟩ := eq_insert e
    cases e
    simp only [nlAll, List.all_cons, List.all_nil, Bool.and_true, Bool.and_eq_true] at na
    have h : LV.nls (xs.take i.toNat ++ ([x] ++ xs.drop i.toNat)) = true := nls_app (nls_take n i.toNat) (nls_app (show LV.nls [x] = true by simp [LV.nls, na.2]) (nls_drop n i.toNat))
    rw [← List.append_assoc] at h
    exact ⟨h, rfl⟩
  | remove =>
    obtain ⟨k, ns, rfl, _, _, e⟩ := eq_remove e
    cases e
    exact ⟨nls_ints _, rfl⟩
  | pop =>
    rcases eq_pop e with ⟨rfl, w, hy, e⟩ | ⟨i, j, w, rfl, hi, hj, hy, e⟩
    · cases e
      refine ⟨?_, nls_at n hy⟩
      rw [List.dropLast_eq_take]
      exact nls_take n _
    · cases e
      exact ⟨nls_erase n _, nls_at n hy⟩
theorem mutr {K : PySem.W.Frag} : ∀ op : MO, MutR K (mutR K op) (mutG op)
  | .append => ⟨mutG_lst, mutG_nl, fun {H m F a us vs xs args O P z' y} hA rx ra e => by
    obtain ⟨x, rfl, hz, e⟩ := eq_append e
    cases e
    obtain ⟨v, rfl, r⟩ := ra.one
    refine ⟨us ++ [v], _, .non, O ++ P, [], rfl, ?_, non_rp, Sub.refl _, fun Q q => ⟨a, us, v, rfl, rfl, hA, by rw [rx.length]; exact hz, q⟩⟩
    have := rx.app (Rps.cons r .nil)
    rwa [List.append_nil] at this⟩
  | .extend => ⟨mutG_lst, mutG_nl, fun {H m F a us vs xs args O P z' y} hA rx ra e => by
    rcases eq_extend e with ⟨ys, rfl, hz, e⟩ | ⟨ds, rfl, hz, e⟩ | ⟨ds, rfl, hz, e⟩
    · cases e
      obtain ⟨v, rfl, r⟩ := ra.one
      cases r with
      | @lst c ws _ P1 hB ry =>
        exact ⟨us ++ ws, _, .non, O ++ P1, [], rfl, rx.app ry, non_rp, ⟨[c], by
          show (O ++ c :: P1).Perm (c :: (O ++ P1))
          exact List.perm_middle⟩, fun Q q => .inl ⟨a, c, us, ws, rfl, rfl, hA, hB, by rw [rx.length, ry.length]; exact hz, q⟩⟩
    · cases e
      obtain ⟨v, rfl, r⟩ := ra.one
      cases r with
      | @imm _ _ as rd f =>
        cases rd with
        | @lst c ws _ as hB rs =>
          have ry := Rps.imms (m := m) rs fun b z => f b (List.mem_cons_of_mem _ z)
          have := rx.app ry
          rw [List.append_nil] at this
          exact ⟨us ++ ws, _, .non, O, [], rfl, this, non_rp, ⟨[], by simp⟩, fun Q q => .inl ⟨a, c, us, ws, rfl, rfl, hA, hB, by rw [rx.length, rs.len]; exact hz, q⟩⟩
    · cases e
      obtain ⟨v, rfl, r⟩ := ra.one
      cases r with
      | @imm _ _ as rd f =>
        cases rd with
        | @tup c ws _ _ hB rs =>
          have ry := Rps.imms (m := m) rs f
          have := rx.app ry
          rw [List.append_nil] at this
          exact ⟨us ++ ws, _, .non, O, [], rfl, this, non_rp, ⟨[], by simp⟩, fun Q q => .inr ⟨a, c, us, ws, rfl, rfl, hA, hB, by rw [rx.length, rs.len]; exact hz, q⟩⟩⟩
  | .insert => ⟨mutG_lst, mutG_nl, fun {H m F a us vs xs args O P z' y} hA rx ra e => by
    obtain ⟨i, x, rfl, ⟨hz, h0, h1⟩, e⟩ := eq_insert e
    cases e
    cases ra with
    | cons r t =>
      obtain ⟨v, rfl, r2⟩ := t.one
      cases r with
      | imm r f =>
        cases r
        obtain ⟨O1, O2, q1, q2, rfl⟩ := rx.take i.toNat
        refine ⟨us.take i.toNat ++ [v] ++ us.drop i.toNat, _, .non, _, [], rfl, (q1.app (Rps.cons r2 .nil)).app q2, non_rp, ⟨[], ?_⟩, fun Q q => ⟨a, us, i, v, rfl, rfl, hA, by rw [rx.length]; exact hz, h0, h1, q⟩⟩
        simp only [List.nil_append, List.append_nil]
        rw [List.append_assoc, List.append_assoc]
        exact List.Perm.append_left O1 List.perm_append_comm⟩
  | .remove => ⟨mutG_lst, mutG_nl, fun {H m F a us vs xs args O P z' y} hA rx ra e => by
    obtain ⟨k, ns, rfl, hn, hk, e⟩ := eq_remove e
    cases e
    obtain ⟨rfl, rfl⟩ := allInts_rp rx hn
    obtain ⟨v, rfl, r⟩ := ra.one
    cases r with
    | imm r f =>
      cases r
      obtain ⟨j, hj, h1, h2, h3⟩ := first_at hk
      refine ⟨(ns.erase k).map V.int, _, .non, [], [], rfl, ints_rp _, non_rp, Sub.refl _, fun Q q => ⟨a, ns, k, j, rfl, rfl, hA, h1, h2, ?_⟩⟩
      rw [h3]; exact q⟩
  | .pop => ⟨mutG_lst, mutG_nl, fun {H m F a us vs xs args O P z' y} hA rx ra e => by
    rcases eq_pop e with ⟨rfl, w, hy, e⟩ | ⟨i, j, w, rfl, hi, hj, hy, e⟩
    · cases e
      cases ra
      obtain ⟨v, Oy, O', h1, h2, h3, h4⟩ := rx.erase hy
      have e1 : xs.eraseIdx (xs.length - 1) = xs.dropLast := PyProof.Rows.Copied.eraseIdx_last xs
      have e2 : us.eraseIdx (xs.length - 1) = us.dropLast := by rw [← rx.length]; exact PyProof.Rows.Copied.eraseIdx_last us
      rw [e1, e2] at h3
      exact ⟨us.dropLast, _, v, O', Oy, rfl, h3, h2, ⟨[], by rw [List.append_nil]; exact h4⟩, fun Q q => .inl ⟨a, us, v, rfl, rfl, hA, by rw [rx.length]; exact h1, q⟩⟩
    · cases e
      obtain ⟨u, rfl, r⟩ := ra.one
      cases r with
      | imm r f =>
        cases r
        obtain ⟨v, Oy, O', h1, h2, h3, h4⟩ := rx.erase hy
        exact ⟨us.eraseIdx j, _, v, O', Oy, rfl, h3, h2, ⟨[], by rw [List.append_nil]; exact h4⟩, fun Q q => .inr ⟨a, us, i, j, v, rfl, rfl, hA, hi.1, hi.2, (ixN_seq (by rw [rx.length]; exact hj)).1, h1, q⟩⟩⟩
end MP
/-! MP.24: calls of methods that change; o[k] = x; dict displays -/
namespace MP
open PySem PySem.Spec PyProof.Rows L2

section
variable {Y : Yx} {X : Cx} {ea eo : Expr} {es : List Expr} {b bA bad be : Bool} {fp : LS → Res (List PyData)} {fA : LS → Res (List LV × LS)} {fe fk : EvF} {i : Nat} {io : List Nat} {pos : Pos} {apos cpos : Pos}
theorem mtr_append {X : Cx} : MtR X "list.append" (mutR X.K .append) := mt_append
theorem SqN.known {pins : List (Addr × Obj)} {σ : L2.St} {H : Hp} {s : Shared} {a : Addr} {xs : List V} (I : Inv X pins σ H s) (h : SqN X.K H a xs) : ∃ (its : List Value) (n : Nat), Vals xs its ∧ s.heap.get? a = some { cls := .type "tuple", dict := none, data := .seq its.toArray n, slots := #[] } := by
  rcases h with ⟨⟨oc, od, oda, os⟩, h, hd, hs⟩ | ⟨⟨oc, od, oda, os⟩, its, n, hk, hc, ⟨hd, hs⟩, e, _, rv⟩
  · obtain ⟨ho, _, its, rv, ⟨o', ho', hc, n, e⟩⟩ := I.hok _ _ h
    rw [ho] at ho'
    cases ho'
    simp only at hc hd hs e
    subst hc hd hs e
    exact ⟨its, n, rv, ho⟩
  · simp only at hc hd hs e
    subst hc hd hs e
    refine ⟨its.toList, n, rv, ?_⟩
    have := I.kIn _ _ hk
    simpa using this
theorem mt_extT : MtR X "list.extend" (rExtT X.K) := by
  intro pins s σ H x vs v us Q I rx rv h
  obtain ⟨l, b, xs, zs, rfl, rfl, hH, hB, hz, q⟩ := h
  cases rx
  obtain ⟨u, rfl, ru⟩ := Vals.one rv
  cases ru
  obtain ⟨z, its, n, r, hl, e⟩ := I.lstM hH
  obtain ⟨its2, n2, r2, e2⟩ := hB.known I
  have h2 := r2.length
  have hsz : its.toArray.size + its2.toArray.size ≤ sizeLine := by rw [List.size_toArray, List.size_toArray]; omega
  have hlong : ¬ (!its.toArray.isEmpty && Builtin.List.listTooLong (its.toArray.size + its2.toArray.size)) = true := by
    rw [notLongL hsz, Bool.and_false]
    exact Bool.false_ne_true
  refine call_meets PySem.F.slot_list_extend ⟨_, e, rfl⟩ PySem.F.entry_list_extend (PySem.F.args_list_extend_2 _ _)
    (AutoSeq1.list_extend_list_tuple_0 l its.toArray n b its2.toArray n2 hlong (by rw [List.size_toArray]; omega) (by omega)) ⟨e, e2, ?_⟩
  refine ⟨.non, _, I.lset (its' := its ++ its2) hH e (by simp) (r.append r2) ?_, rfl, q⟩
  rw [List.length_append]
  omega
theorem mtr_extend {X : Cx} : MtR X "list.extend" (mutR X.K .extend) := MtR.or mt_extend mt_extT
theorem mtr_insert {X : Cx} : MtR X "list.insert" (mutR X.K .insert) := mt_insert
theorem mtr_remove {X : Cx} : MtR X "list.remove" (mutR X.K .remove) := mt_remove
theorem mtr_pop {X : Cx} : MtR X "list.pop" (mutR X.K .pop) := MtR.or mt_pop mt_popAt
theorem se_mut {op : MO} {name : Str} {id : String} (hK : X.K = Y.K) (pa : PlainAttrs "list") (slot : Slot "list" name id) (hty : typeOf (.builtin id) = pure (.type "method_descriptor")) (hm : MtR X id (mutR X.K op)) (ho : SP Y X i fp eo) (ha : SA Y X bA fA (ea :: es)) (hp : bad = false → bA = true → ∀ s, fp s = .ok [])
    (hbase : attributeBase eo name X.env (eval eo X.env) = eval eo X.env)
    (hfew : ((backTo cpos (starEach (ea :: es) X.env)).all (fun x => !x.1) && (backToKw cpos (keywordEach [] X.env)).all (fun x => x.1.isSome)
      && decide ((ea :: es).length + ([] : List Keyword).length + (if ([] : List Keyword).isEmpty then 0 else 1) < 30)) = true)
    (hline : (apos.endLine == cpos.line) = true) (hs : starEach (ea :: es) X.env = (false, eval ea X.env) :: starEach es X.env) (hplain : (backTo cpos (starEach es X.env)).any (·.1) = false) :
    SE Y X true (mutE i bad (mutG op) fp fA) (.Call (.Attribute eo name apos) (ea :: es) [] cpos) :=
  PEw (pe_bm pa slot hty hm ho ha hbase hfew hline hs hplain) fun vs H Q h => by rw [hK]; exact mut_conv (mutr op) hp h
theorem se_mut0 {op : MO} {name : Str} {id : String} (hK : X.K = Y.K) (pa : PlainAttrs "list") (slot : Slot "list" name id) (hty : typeOf (.builtin id) = pure (.type "method_descriptor")) (hm : MtR X id (mutR X.K op)) (ho : SP Y X i fp eo)
    (hbase : attributeBase eo name X.env (eval eo X.env) = eval eo X.env) (hline : (apos.endLine == cpos.line) = true) :
    SE Y X true (mutE i bad (mutG op) fp (fun s => .ok ([], s))) (.Call (.Attribute eo name apos) [] [] cpos) :=
  PEw (pe_bm0 pa slot hty hm ho hbase hline) fun vs H Q h => by
    rw [hK]
    have q := mut_conv (bA := false) (mutr op) (fun _ z => nomatch z) h
    obtain ⟨s, R, m, A, B, ds, v, vz, l, e, ev, rc, k⟩ := q
    refine ⟨s, R, m, A, B, ds, v, vz, l, e, ev, rc, fun H' m' A' B' x => ?_⟩
    obtain ⟨h1, s2, R2, m2, A2, B2, l2, n2, h2⟩ := k H' m' A' B' x
    exact ⟨h1, h2 [] H' m2 A2 B2 [] (Stp.refl l2) .nil⟩

/-! ### o[k] = x -/
def rSetA : TSet := fun o i v H Q => rSetL o i v H Q ∨ ∃ a kvs k, o = .ref a ∧ i = kV k ∧ H a = some (.dK kvs) ∧ kvs.length < sizeLine ∧ Q (upd H a (.dK (putK kvs k v)))
theorem set_any (hu : X.A.units + 64 < cLine) : PSet X rSetA := by
  intro pins s σ H o i v ov iv u Q I ro ri rv h
  rcases h with h | ⟨a, kvs, k, rfl, rfl, hA, hz, q⟩
  · exact set_list pins s σ H o i v ov iv u Q I ro ri rv h
  · cases ro
    exact d_setItem (by omega) I (DPut.k hA hz) ri rv fun s' I' => ⟨_, I', q⟩
theorem Rps.setv {K : PySem.W.Frag} {H : Hp} {m : List Addr} {F : Addr → Prop} {us : List V} {xs : List LV} {O P : List Addr} {v : V} {x : LV} (r : Rps K H m F us xs O) (q : Rp K H m F v x P) : ∀ {j : Nat}, j < xs.length → ∃ O', Rps K H m F (us.set j v) (xs.set j x) O' ∧ Sub O' (O ++ P) := by
  induction xs generalizing us O with
  | nil => intro j h; simp at h
  | cons y ys ih =>
    cases r with
    | @cons w ws _ _ O1 O2 r t =>
      intro j h
      cases j with
      | zero => exact ⟨P ++ O2, .cons q t, O1, by rw [List.append_assoc]; exact List.Perm.append_left O1 List.perm_append_comm⟩
      | succ j =>
        obtain ⟨O', h1, D, h2⟩ := ih t (by simpa using h)
        refine ⟨O1 ++ O', .cons r h1, D, ?_⟩
        rw [List.append_assoc]
        exact (List.Perm.append_left O1 h2).trans pmid
theorem putK_setK : ∀ {kvs : List (Key × V)} {k : Key} {v : V}, (kvs.filter fun p => decide (p.1 = k)).length ≤ 1 → putK kvs k v = setK kvs k v := by
  intro kvs k v
  have none_ : ∀ kvs : List (Key × V), (kvs.filter fun p => decide (p.1 = k)).length ≤ 0 → kvs.map (fun kv => if kv.1 = k then (kv.1, v) else kv) = kvs ∧ (kvs.any fun kv => decide (kv.1 = k)) = false := by
    intro kvs
    induction kvs with
    | nil => intro _; exact ⟨rfl, rfl⟩
    | cons p r ih =>
      intro h
      by_cases e : p.1 = k
      · simp [e] at h
      · simp only [List.filter_cons, e, decide_false] at h
        obtain ⟨h1, h2⟩ := ih h
        exact ⟨by simp [e, h1], by simp [e]; simpa using h2⟩
  induction kvs with
  | nil => intro _; rfl
  | cons p r ih =>
    intro h
    obtain ⟨k', w⟩ := p
    by_cases e : k' = k
    · have h' : (r.filter fun p => decide (p.1 = k)).length ≤ 0 := by
        simp [List.filter_cons, e] at h
        simpa using h
      obtain ⟨h1, h2⟩ := none_ r h'
      unfold putK setK
      rw [if_pos (by simp [e]), if_pos e, List.map_cons, if_pos e, h1]
    · have h' : (r.filter fun p => decide (p.1 = k)).length ≤ 1 := by simpa [List.filter_cons, e] using h
      have q := ih h'
      unfold setK
      rw [if_neg e, ← q]
      unfold putK
      by_cases a : (r.any fun kv => decide (kv.1 = k)) = true
      · rw [if_pos (by simp only [List.any_cons, Bool.or_eq_true]; exact .inr a), if_pos a, List.map_cons, if_neg e]
      · rw [if_neg (by simp only [List.any_cons, Bool.or_eq_true, not_or]; exact ⟨by simp [e], a⟩), if_neg a]; rfl
theorem Rpk.setv {K : PySem.W.Frag} {H : Hp} {m : List Addr} {F : Addr → Prop} {us : List (Key × V)} {ks : List (Key × LV)} {O P : List Addr} {k : Key} {v : V} {x : LV} (r : Rpk K H m F us ks O) (q : Rp K H m F v x P) : ∃ O', Rpk K H m F (setK us k v) (setK ks k x) O' ∧ Sub O' (O ++ P) := by
  induction ks generalizing us O with
  | nil =>
    cases r
    have := Rpk.cons (k := k) q .nil
    rw [List.append_nil] at this
    exact ⟨P, this, Sub.refl _⟩
  | cons y ys ih =>
    cases r with
    | @cons k' w ws y' _ O1 O2 r t =>
      unfold setK
      by_cases e : k' = k
      · rw [if_pos e, if_pos e]
        exact ⟨P ++ O2, .cons q t, O1, by rw [List.append_assoc]; exact List.Perm.append_left O1 List.perm_append_comm⟩
      · rw [if_neg e, if_neg e]
        obtain ⟨O', h1, D, h2⟩ := ih t
        refine ⟨O1 ++ O', .cons r h1, D, ?_⟩
        rw [List.append_assoc]
        exact (List.Perm.append_left O1 h2).trans pmid
theorem Rpk.keys {K : PySem.W.Frag} {H : Hp} {m : List Addr} {F : Addr → Prop} {us : List (Key × V)} {ks : List (Key × LV)} {O : List Addr} {k : Key} (r : Rpk K H m F us ks O) : us.length = ks.length ∧ (us.filter fun p => decide (p.1 = k)).length = (ks.filter fun p => decide (p.1 = k)).length := by
  induction ks generalizing us O with
  | nil => cases r; exact ⟨rfl, rfl⟩
  | cons y ys ih =>
    cases r with
    | @cons k' w ws y' _ O1 O2 r t =>
      obtain ⟨h1, h2⟩ := ih t
      refine ⟨by simp [h1], ?_⟩
      by_cases e : k' = k <;> simp [List.filter_cons, e, h2]
/-- what o[k] = x makes of the thing -/
theorem putZ_rp {K : PySem.W.Frag} {H : Hp} {m : List Addr} {F : Addr → Prop} {w y v : V} {z z' x : LV} {d : PyData} {Oz P : List Addr} (e : putZ z d x = some z') (rz : Rp K H m F w z Oz) (rd : RD K H y d []) (rx : Rp K H m F v x P) (nz : z.nl = true) (nx : x.nl = true) :
    z'.nl = true ∧ ∃ a o Oz1 O', w = .ref a ∧ Oz = a :: Oz1 ∧ WM [a] H ∧ Sub O' (Oz1 ++ P) ∧ (∀ H' F', H' a = some o → Pres [a] H H' → a ∉ O' → (∀ b, F b → H b ≠ none → F' b) → (∀ b, F b → H b ≠ none → b ≠ a) → Rp K H' m F' w z' (a :: O')) ∧ ∀ Q : Hp → Prop, Q (upd H a o) → rSetA w y v H Q := by
  unfold putZ at e
  split at e
  · rename_i xs j
    obtain ⟨k, hk, rfl⟩ := Option.map_eq_some_iff.mp e
    cases rz with
    | @lst a us _ Oz1 hA r =>
      cases rd
      have hl := (ixN_seq hk).2.1
      obtain ⟨O', h1, sb⟩ := r.setv rx hl
      have n' : LV.nls (xs.set k x) = true := nls_set (by simpa [LV.nl] using nz) nx
      have wa : WM [a] H := fun b z => by rw [List.mem_singleton.mp z]; exact .inl ⟨_, hA⟩
      refine ⟨by simpa [LV.nl] using n', a, .lst (us.set k v), Oz1, O', rfl, rfl, wa, sb, fun H' F' ho p na hF hn => .lst ho (h1.pres p wa (fun _ _ e => e) hF (fun b f n w => hn b f n (List.mem_singleton.mp w)) (fun b z w => na (List.mem_singleton.mp w ▸ z)) (.inr n')), fun Q q => .inl ⟨a, us, j, k, rfl, rfl, hA, by rw [r.length]; exact hk, q⟩⟩
  · rename_i ks
    split at e
    · rename_i k ek
      by_cases hc : ks.length < sizeLine ∧ (ks.filter fun p => decide (p.1 = k)).length ≤ 1
      · rw [if_pos hc] at e
        cases e
        have hy := keyOf_rd rd ek
        subst hy
        cases rz with
        | @dic a us _ Oz1 hA r =>
          obtain ⟨O', h1, sb⟩ := r.setv (k := k) rx
          obtain ⟨k1, k2⟩ := r.keys (k := k)
          have n' : LV.nlk (setK ks k x) = true := nlk_set (by simpa [LV.nl] using nz) nx
          have wa : WM [a] H := fun b z => by rw [List.mem_singleton.mp z]; exact .inr ⟨_, hA⟩
          have pk : putK us k v = setK us k v := putK_setK (by rw [k2]; exact hc.2)
          refine ⟨by simpa [LV.nl] using n', a, .dK (putK us k v), Oz1, O', rfl, rfl, wa, sb, fun H' F' ho p na hF hn => .dic ho (by rw [pk]; exact h1.pres p wa (fun _ _ e => e) hF (fun b f n w => hn b f n (List.mem_singleton.mp w)) (fun b z w => na (List.mem_singleton.mp w ▸ z)) (.inr n')), fun Q q => .inr ⟨a, us, k, rfl, rfl, hA, by rw [k1]; exact hc.1, q⟩⟩
      · rw [if_neg hc] at e; cases e
    · cases e
  · cases e
theorem putZ_key {z z' x : LV} {d : PyData} (e : putZ z d x = some z') : (∃ i, d = .int i) ∨ ∃ k, d = .str k := by
  cases d with
  | int i => exact .inl ⟨i, rfl⟩
  | str k => exact .inr ⟨k, rfl⟩
  | _ => cases z <;> simp [putZ, keyOf] at e
theorem set_conv {D : Ends} {vs : L2.St} {H : Hp} (h : tS Y io (setS i bad fe fp fk) D vs H) : tAsg (tG Y be (relV Y) fe) (gSub (tPth Y i fp) (tG Y false (relV Y) fk) rSetA) D vs H := by
  obtain ⟨s, R, m, A, B, l, n, h⟩ := h
  unfold setS at h
  cases hb : bad with
  | true => rw [hb] at h; exact h.elim
  | false =>
    rw [hb] at h
    simp only [Bool.false_eq_true, if_false] at h
    refine ⟨s, R, m, A, B, l, fun _ => n, h.expr n fun p hp h1 v H1 m1 A1 B1 P x1 r1 => ?_⟩
    cases e1 : fp p.2 with
    | exc c ps s' => rw [e1] at h1; exact h1.elim
    | stuck => rw [e1] at h1; exact h1.elim
    | ok ds =>
      rw [e1] at h1
      simp only [noExc, Res.toS] at h1
      cases e2 : fk p.2 with
      | exc c ps s' => rw [e2] at h1; exact h1.elim
      | stuck => rw [e2] at h1; exact h1.elim
      | ok q =>
        rw [e2] at h1
        simp only at h1
        obtain ⟨xk, sk⟩ := q
        simp only at h1
        cases xk with
        | imm d =>
         cases hz : getF p.2 i ds with
         | none => rw [hz] at h1; exact h1.elim
         | some z =>
          rw [hz] at h1
          simp only at h1
          by_cases nx : p.1.nl = true
          case neg => rw [if_neg nx] at h1; exact h1.elim
          rw [if_pos nx] at h1
          cases e3 : putZ z d p.1 with
          | none => rw [e3] at h1; exact h1.elim
          | some z' =>
            rw [e3] at h1
            simp only at h1
            cases e4 : putF p.2 i ds z' with
            | none => rw [e4] at h1; exact h1.elim
            | some s' =>
              rw [e4] at h1
              obtain ⟨w, wz, Oz0, Or0, ev, rc0, _, _, _, _⟩ := focus_rp x1.li (x1.nl n) hz
              refine ⟨p.2, Rv R P, m1, A1, B1, ds, w, wz, x1.li, e1, ev, rc0, fun H2 m2 A2 B2 x2 => ?_⟩
              refine ⟨p.2, Rv (Rv R P) [], m2, A2, B2, x2.li, (fun z => nomatch z), ?_⟩
              rw [e2]
              intro y H3 m3 A3 B3 P3 x3 ry
              simp only at x3 ry
              have es : sk = p.2 := (x3.ef rfl).1
              rw [es] at x3
              cases ry with
              | @imm _ _ as rd f =>
                have x3' := x3.drop
                have x23 := x2.seq x3'
                have xx := x1.seq x23
                have e0 : P ++ ([] ++ []) = P := by simp
                rw [e0] at xx
                obtain ⟨w', wz', Oz, Or, ev', rc, rz, pm, nz, put⟩ := focus_rp (i := i) (ds := ds) xx.li (xx.nl n) hz
                rw [ev] at ev'
                cases ev'
                have same : wz' = wz := rc.det (rc0.pres (x23.ef rfl).2)
                subst same
                have rv := x1.keep r1 x23 (.inl rfl)
                rw [e0] at rv
                have rd' : RD Y.K H3 y d [] := by
                  rcases putZ_key e3 with ⟨k, rfl⟩ | ⟨k, rfl⟩
                  · cases rd; exact .int _
                  · cases rd; exact .str _
                have F0 : ∀ c, Fz (Rv R P) (A3 ++ B3) c → Fz R (A3 ++ B3 ++ P) c := fun c f => ⟨fun w => (List.mem_append.mp w).elim f.1 fun w => f.2 (.inr w), fun w => f.2 (.inl w)⟩
                have rz' : Rp Y.K H3 m3 (Fz R (A3 ++ B3 ++ P)) wz' z Oz := rz.fz F0
                obtain ⟨nz', a, o, Oz1, O', rfl, rfl, wa, sb, mk, fin⟩ := putZ_rp e3 rz' rd' rv nz nx
                refine fin _ ?_
                have nd2 := List.nodup_append.mp (pm.nodup_iff.mp xx.li.nd)
                have inA : ∀ {b}, b ∈ (a :: Oz1) ++ Or → b ∈ A3 ++ B3 := fun z => pm.mem_iff.mpr z
                have aA : a ∈ A3 ++ B3 := inA (List.mem_append_left _ List.mem_cons_self)
                have src : ∀ b, b ∈ O' → b ∈ A3 ++ B3 ++ P := fun b z => (List.mem_append.mp (sb.mem z)).elim (fun z => List.mem_append_left _ (inA (List.mem_append_left _ (List.mem_cons_of_mem _ z)))) (List.mem_append_right _)
                have naO : a ∉ O' := fun z => by
                  rcases List.mem_append.mp (sb.mem z) with q | q
                  · exact (List.nodup_cons.mp nd2.1).1 q
                  · exact xx.disj a aA q
                have F2 : ∀ c, Fz R (A3 ++ B3 ++ P) c → Fz R ((a :: O') ++ Or ++ []) c := fun c f => ⟨fun w => f.1 (by
                  rw [List.append_nil] at w
                  rcases List.mem_append.mp w with w | w
                  · rcases List.mem_cons.mp w with w | w
                    · rw [w]; exact List.mem_append_left _ aA
                    · exact src c w
                  · exact List.mem_append_left _ (inA (List.mem_append_right _ w))), f.2⟩
                have nfa : ∀ c, Fz R (A3 ++ B3 ++ P) c → H3 c ≠ none → c ≠ a := fun c f _ w => f.1 (by rw [w]; exact List.mem_append_left _ aA)
                have pu : Pres [a] H3 (upd H3 a o) := Pres.upd
                obtain ⟨A4, B4, q1, q2, q3⟩ := put (upd H3 a o) (Fz R ((a :: O') ++ Or ++ [])) a z' s' (a :: O') List.mem_cons_self pu wa (fun c f _ => F2 c (F0 c f)) (mk _ _ upd_same pu naO (fun c f _ => F2 c f) nfa) e4
                have st := xx.put (Oy := []) pm sb q1 q2 q3 (putF_nl e4 (xx.nl n) nz')
                exact h1 _ vs m3 A4 B4 (st.toT n)
        | _ => exact h1.elim
theorem ss_setix {eo ek : Expr} {p2 : Pos} (hK : X.K = Y.K) (hu : X.A.units + 64 < cLine) (he : SE Y X be fe ea) (ho : SP Y X i fp eo) (hk : SE Y X false fk ek)
    (hs : swapsWithSole [.Subscript eo ek p2] ea pos.line X.env = pure false) (hw : swappedStores [.Subscript eo ek p2] ea X.env = pure none)
    (ha : ∀ v, assign (.Subscript eo ek p2) X.env v = (do
      let ov ← holding [v] (eval eo X.env)
      let iv ← holding [v, ov] (eval ek X.env)
      standAt p2
      holding [v, ov, iv] (setItem ov iv v)
      release [v, ov, iv] []))
    (h1 : (assignEach [.Subscript eo ek p2] X.env).map (·.2) = [assign (.Subscript eo ek p2) X.env]) :
    SS Y X io (setS i bad fe fp fk) (.Assign [.Subscript eo ek p2] ea pos) := PSw (ps_asg he (pg_sub ho hk (set_any hu) ha) hs hw h1) fun D vs H h => set_conv h

/-! ### dict displays -/
def SD (Y : Yx) (X : Cx) (pos : Pos) (b : Bool) (ks : List Str) (fA : LS → Res (List LV × LS)) (keys : List (Option Expr)) (vals : List Expr) : Prop :=
  ∃ trs, PPs X pos keys vals trs ∧ ∀ σ H Q, tG Y b (relVs Y) fA σ H (fun us H' => Q ((ks.zip us).map fun p => (V.str p.1, p.2)) H') → tPairs trs σ H Q
theorem sd_nil : SD Y X pos b [] (fun s => .ok ([], s)) [] [] := ⟨[], pps_nil, fun σ H Q h => by
  obtain ⟨s, R, m, A, B, l, n, h⟩ := h
  exact h [] H m A B [] (Stp.refl l) .nil⟩
theorem sd_cons {k : Str} {ks : List Str} {bb : Bool} {keys : List (Option Expr)} {vals : List Expr} {j : Nat} {p : Pos} {gA : LS → Res (List LV × LS)} (he : SE Y X b fe ea) (hr : SD Y X pos bb ks gA keys vals) : SD Y X pos (b || bb) (k :: ks) (consA bb fe gA) (some (.Constant (.str k) j p) :: keys) (ea :: vals) := by
  obtain ⟨trs, h1, h2⟩ := hr
  refine ⟨_, pps_cons (PEw (t' := fun _ H Q => Q (.str k) H) pe_str fun _ _ _ h => h) he h1, fun σ H Q h => ?_⟩
  have q := cons_conv h
  obtain ⟨s, R, m, A, B, l, n, q⟩ := q
  refine ⟨s, R, m, A, B, l, n, ?_⟩
  revert q
  cases fe s with
  | ok p => exact fun q y H' m' A' B' Ov x r => h2 _ _ _ (q y H' m' A' B' Ov x r)
  | exc c ps s' => exact id
  | stuck => exact id
theorem Stp.write {H H2 : Hp} {R : Addr → Prop} {vs : L2.St} {s s2 : LS} {m A B m2 A2 B2 O : List Addr} {p : Addr} {o : HO} (x : Stp Y.K H R vs s m A B b H2 s2 m2 A2 B2 O) (hp : p ∈ O) (h0 : H p = none) (wp : WM [p] H2) (n : nlL s2 = true) :
    Stp Y.K H R vs s m A B b (upd H2 p o) s2 m2 A2 B2 O := by
  have pu : Pres [p] H2 (upd H2 p o) := Pres.upd
  have dm' : ∀ c, H2 c ≠ none → (upd H2 p o) c ≠ none := fun c n => by
    by_cases e : c = p
    · rw [e, upd_same]; exact fun z => nomatch z
    · rw [upd_ne e]; exact n
  exact ⟨x.li.pres pu wp (fun a z w => x.disj a z (List.mem_singleton.mp w ▸ hp)) (fun a _ h _ => ⟨fun w => h (.inr (List.mem_singleton.mp w ▸ hp)), h⟩) x.li.nr (fun a z => dm' a (x.li.rs a z)) (.inr n), x.nd, x.nr, fun a z => dm' a (x.ex a z),
    x.pr.trans pu fun a z => .inr (List.mem_singleton.mp z ▸ h0), fun c n => dm' c (x.dm c n), x.gr, x.mm, x.nl, fun hb => ⟨(x.ef hb).1, (x.ef hb).2.trans pu fun a z => .inr (List.mem_singleton.mp z ▸ h0)⟩⟩
theorem zip_rpk {K : PySem.W.Frag} {H : Hp} {m : List Addr} {F : Addr → Prop} : ∀ {ks : List Str} {us : List V} {xs : List LV} {O : List Addr}, Rps K H m F us xs O → ks.length = xs.length → Rpk K H m F ((ks.map Sum.inr).zip us) ((ks.map Sum.inr).zip xs) O
  | [], _, _, _, .nil, _ => .nil
  | [], _, _, _, .cons _ _, e => by simp at e
  | _ :: _, _, _, _, .nil, e => by simp at e
  | k :: ks, _, _, _, .cons r t, e => .cons r (zip_rpk t (by simpa using e))
theorem merge_new : ∀ {kvs : List (Key × V)} {acc : List (Key × V)}, (kvs.map (·.1)).Nodup → (∀ k ∈ kvs.map (·.1), k ∉ acc.map (·.1)) → mergeK acc kvs = acc ++ kvs
  | [], acc, _, _ => by simp [mergeK]
  | (k, v) :: r, acc, nd, h => by
    obtain ⟨h1, h2⟩ := List.nodup_cons.mp (show (k :: r.map (·.1)).Nodup from nd)
    have e : putK acc k v = acc ++ [(k, v)] := by
      unfold putK
      rw [if_neg]
      intro z
      obtain ⟨p, hp, e⟩ := List.any_eq_true.mp z
      exact h k (by simp) (List.mem_map.mpr ⟨p, hp, by simpa using e⟩)
    show mergeK (putK acc k v) r = _
    rw [e, merge_new h2, List.append_assoc]
    · rfl
    · intro k' hk' z
      rw [List.map_append, List.mem_append] at z
      rcases z with z | z
      · exact h k' (by simp only [List.map_cons, List.mem_cons]; exact .inr hk') z
      · simp at z
        exact h1 (z ▸ hk')
theorem dk_conv {ks : List Str} {keys : List (Option Expr)} {vals : List Expr} {trs : List (TE × TE)} (ht : ∀ σ H Q, tG Y b (relVs Y) fA σ H (fun us H' => Q ((ks.zip us).map fun p => (V.str p.1, p.2)) H') → tPairs trs σ H Q) {vs : L2.St} {H : Hp} {Q : VK} (h : tG Y b (relV Y) (dkE ks fA) vs H Q) : tDisp trs vs H Q := by
  obtain ⟨s, R, m, A, B, l, n, h⟩ := h
  intro p hp
  apply ht
  have x0 : Stp Y.K H R vs s m A B b (upd H p (.dK [])) s m A B [p] := (Stp.refl (b := b) l).res (Pres.new hp) (fun a z => by rw [List.mem_singleton.mp z]; exact ⟨.inr hp, by rw [upd_same]; exact fun z => nomatch z⟩) (List.nodup_cons.mpr ⟨List.not_mem_nil, List.nodup_nil⟩)
  refine ⟨s, Rv R [p], m, A, B, x0.li, n, Post.next (b := b) (b1 := b) (b2 := b) x0 (fun e => ⟨e, e⟩) h fun q hq h1 us H2 m2 A2 B2 P x2 r2 => ?_⟩
  by_cases hc : ks.length = q.1.length ∧ ks.length ≤ 15 ∧ ks.Nodup ∧ nlAll q.1 = true ∧ nlL q.2 = true
  case neg => rw [if_neg hc] at h1; exact h1.elim
  rw [if_pos hc] at h1
  obtain ⟨c1, c2, c3, c4, c5⟩ := hc
  have hp2 : H2 p = some (.dK []) := x2.pr p _ upd_same fun z => x0.li.nr p z (.inr (List.mem_singleton.mpr rfl))
  refine ⟨hp2, (ks.map Sum.inr).zip us, ?_, ?_, ?_⟩
  · clear h1
    induction ks generalizing us with
    | nil => rfl
    | cons k ks ih =>
      cases us with
      | nil => rfl
      | cons u us =>
        simp only [List.map_cons, List.zip_cons_cons, kV, List.cons.injEq, true_and]
        have : ∀ (ks : List Str) (us : List V), (ks.zip us).map (fun p => (V.str p.1, p.2)) = ((ks.map (Sum.inr : Str → Key)).zip us).map fun kv => (kV kv.1, kv.2) := by
          intro ks
          induction ks with
          | nil => intro us; rfl
          | cons k ks ih => intro us; cases us with
            | nil => rfl
            | cons u us => simp [kV, ih us]
        exact this ks us
  · rw [List.length_zip, List.length_map]
    have := r2.length
    omega
  · have xx := x0.seq x2
    have mk : mergeK [] ((ks.map Sum.inr).zip us) = (ks.map Sum.inr).zip us := by
      have hk : (((ks.map (Sum.inr : Str → Key)).zip us).map (·.1)) = ks.map Sum.inr := List.map_fst_zip (by rw [List.length_map, c1, r2.length]; exact Nat.le_refl _)
      rw [merge_new, List.nil_append]
      · rw [hk]
        exact List.pairwise_map.mpr (c3.imp fun h e => h (Sum.inr.inj e))
      · intro k _ z; simp at z
    rw [mk]
    have wp : WM [p] H2 := fun b z => by rw [List.mem_singleton.mp z]; exact .inr ⟨_, hp2⟩
    have nP : p ∉ P := fun z => x2.nr p z (.inr (List.mem_singleton.mpr rfl))
    have x3 := xx.write (o := .dK ((ks.map Sum.inr).zip us)) (p := p) (by simp) hp wp c5
    refine h1 (.ref p) _ m2 A2 B2 ([p] ++ P) (x3.any (fun e => by rw [e]; rfl)) (.dic upd_same ?_)
    refine (zip_rpk r2 c1).pres (Pres.upd (p := p)) wp (fun _ _ e => e) (fun a f _ => ?_) (fun a f _ w => f.2 (.inr w)) (fun a z w => nP (List.mem_singleton.mp w ▸ z)) (.inr ?_)
    · exact Fz_rv a f
    · have : ∀ (ks : List Str) (xs : List LV), LV.nls xs = true → LV.nlk ((ks.map (Sum.inr : Str → Key)).zip xs) = true := by
        intro ks
        induction ks with
        | nil => intro xs _; simp [LV.nlk]
        | cons k ks ih =>
          intro xs hx
          cases xs with
          | nil => simp [LV.nlk]
          | cons x xs =>
            simp only [LV.nls, Bool.and_eq_true] at hx
            simp [LV.nlk, hx.1, ih xs hx.2]
      exact this ks _ (nls_all c4)
theorem se_dk {ks : List Str} {keys : List (Option Expr)} {vals : List Expr} (h : SD Y X pos b ks fA keys vals) (hall : keys.all (·.isSome) = true) (hl : keys.length = vals.length) (h0 : keys ≠ []) (h15 : keys.length ≤ 15) : SE Y X b (dkE ks fA) (.Dict keys vals pos) := by
  obtain ⟨trs, h1, h2⟩ := h
  exact PEw (pe_disp h1 hall hl h0 h15) fun vs H Q h => dk_conv (keys := keys) (vals := vals) h2 h
end
end MP
/-! MP.25: a def from its body -/
namespace MP
open PySem PySem.Spec PyProof.Rows L2

section
variable {K : PySem.W.Frag} {H : Hp} {m : List Addr} {F : Addr → Prop} {us : List V}
mutual
/-- shared things put back -/
theorem rsv_rp : ∀ {x y : LV} {v : V} {O B : List Addr} {ob ob' : List (Option LV)}, Rp K H m F v x O → RpS K H m F ((m.map V.ref).map some) ob B → rsv ob x = some (y, ob') →
    ∃ Oy B', Rp K H [] F v y Oy ∧ RpS K H m F ((m.map V.ref).map some) ob' B' ∧ (O ++ B).Perm (Oy ++ B')
  | .imm d, _, _, _, B, ob, _, .imm r f, ro, e => by
    unfold rsv at e; cases e
    exact ⟨[], B, .imm r f, ro, List.Perm.refl _⟩
  | .lent d, _, _, _, _, _, _, _, _, e => by unfold rsv at e; cases e
  | .ref l, y, _, _, B, ob, ob', @Rp.ref _ _ _ _ a _ h, ro, e => by
    unfold rsv at e
    split at e
    · rename_i x hx
      split at e
      · rename_i hg
        cases e
        obtain ⟨w, O, B', e1, r, ro', pm⟩ := ro.out hx
        have : w = .ref a := by
          rw [List.getElem?_map, List.getElem?_map, h] at e1
          exact (Option.some.inj (Option.some.inj e1)).symm
        subst this
        exact ⟨O, B', r.giv hg, ro', pm⟩
      · cases e
    · cases e
  | .lst xs, y, _, _, B, ob, ob', @Rp.lst _ _ _ _ a vs _ O h r, ro, e => by
    unfold rsv at e
    obtain ⟨⟨ys, ob1⟩, e1, e2⟩ := Option.map_eq_some_iff.mp e
    cases e2
    obtain ⟨Oy, B', q1, q2, q3⟩ := rsvs_rp r ro e1
    exact ⟨a :: Oy, B', .lst h q1, q2, List.Perm.cons a q3⟩
  | .tup xs, y, _, _, B, ob, ob', @Rp.tup _ _ _ _ a vs _ O h r, ro, e => by
    unfold rsv at e
    obtain ⟨⟨ys, ob1⟩, e1, e2⟩ := Option.map_eq_some_iff.mp e
    cases e2
    obtain ⟨Oy, B', q1, q2, q3⟩ := rsvs_rp r ro e1
    exact ⟨Oy, B', .tup h q1, q2, q3⟩
  | .dic ks, y, _, _, B, ob, ob', @Rp.dic _ _ _ _ a vs _ O h r, ro, e => by
    unfold rsv at e
    obtain ⟨⟨ys, ob1⟩, e1, e2⟩ := Option.map_eq_some_iff.mp e
    cases e2
    obtain ⟨Oy, B', q1, q2, q3⟩ := rsvk_rp r ro e1
    exact ⟨a :: Oy, B', .dic h q1, q2, List.Perm.cons a q3⟩
theorem rsvs_rp : ∀ {xs ys : List LV} {vs : List V} {O B : List Addr} {ob ob' : List (Option LV)}, Rps K H m F vs xs O → RpS K H m F ((m.map V.ref).map some) ob B → rsv.rsvs ob xs = some (ys, ob') →
    ∃ Oy B', Rps K H [] F vs ys Oy ∧ RpS K H m F ((m.map V.ref).map some) ob' B' ∧ (O ++ B).Perm (Oy ++ B')
  | [], _, _, _, B, _, _, .nil, ro, e => by
    unfold rsv.rsvs at e; cases e
    exact ⟨[], B, .nil, ro, List.Perm.refl _⟩
  | x :: xs, _, _, _, B, ob, ob', @Rps.cons _ _ _ _ v vs _ _ O P r t, ro, e => by
    unfold rsv.rsvs at e
    split at e
    · rename_i y ob1 e1
      split at e
      · rename_i ys ob2 e2
        cases e
        obtain ⟨O1, B1, q1, q2, q3⟩ := rsv_rp r ro e1
        obtain ⟨O2, B2, p1, p2, p3⟩ := rsvs_rp t q2 e2
        refine ⟨O1 ++ O2, B2, .cons q1 p1, p2, ?_⟩
        have h1 : (O ++ P ++ B).Perm (P ++ (O ++ B)) := by rw [List.append_assoc]; exact pmid
        have h2 : (P ++ (O1 ++ B1)).Perm (O1 ++ (P ++ B1)) := pmid
        have h3 := (h1.trans (List.Perm.append_left P q3)).trans (h2.trans (List.Perm.append_left O1 p3))
        rwa [← List.append_assoc] at h3
      · cases e
    · cases e
theorem rsvk_rp : ∀ {xs ys : List (Key × LV)} {vs : List (Key × V)} {O B : List Addr} {ob ob' : List (Option LV)}, Rpk K H m F vs xs O → RpS K H m F ((m.map V.ref).map some) ob B → rsv.rsvk ob xs = some (ys, ob') →
    ∃ Oy B', Rpk K H [] F vs ys Oy ∧ RpS K H m F ((m.map V.ref).map some) ob' B' ∧ (O ++ B).Perm (Oy ++ B')
  | [], _, _, _, B, _, _, .nil, ro, e => by
    unfold rsv.rsvk at e; cases e
    exact ⟨[], B, .nil, ro, List.Perm.refl _⟩
  | (k, x) :: xs, _, _, _, B, ob, ob', @Rpk.cons _ _ _ _ _ v vs _ _ O P r t, ro, e => by
    unfold rsv.rsvk at e
    split at e
    · rename_i y ob1 e1
      split at e
      · rename_i ys ob2 e2
        cases e
        obtain ⟨O1, B1, q1, q2, q3⟩ := rsv_rp r ro e1
        obtain ⟨O2, B2, p1, p2, p3⟩ := rsvk_rp t q2 e2
        refine ⟨O1 ++ O2, B2, .cons q1 p1, p2, ?_⟩
        have h1 : (O ++ P ++ B).Perm (P ++ (O ++ B)) := by rw [List.append_assoc]; exact pmid
        have h2 : (P ++ (O1 ++ B1)).Perm (O1 ++ (P ++ B1)) := pmid
        have h3 := (h1.trans (List.Perm.append_left P q3)).trans (h2.trans (List.Perm.append_left O1 p3))
        rwa [← List.append_assoc] at h3
      · cases e
    · cases e
end
theorem outs_rp {vs : L2.St} : ∀ {io : List Nat} {sl : List (Option LV)} {A B : List Addr} {ob ob' : List (Option LV)} {ys : List LV}, RpS K H m F vs sl A → RpS K H m F ((m.map V.ref).map some) ob B → outsOf sl io ob = some (ys, ob') → distinct io = true →
    ∃ Oo C, Rps K H [] F (io.filterMap fun i => (vs[i]?).join) ys Oo ∧ (A ++ B).Perm (Oo ++ C)
  | [], sl, A, B, ob, ob', ys, r, ro, e, hd => by
    unfold outsOf at e; cases e
    exact ⟨[], A ++ B, .nil, List.Perm.refl _⟩
  | i :: is, sl, A, B, ob, ob', ys, r, ro, e, hd => by
    obtain ⟨hn, hd'⟩ := distinct_cons hd
    unfold outsOf at e
    split at e
    · rename_i x hx
      split at e
      · rename_i y ob1 e1
        split at e
        · rename_i ys2 ob2 e2
          cases e
          obtain ⟨v, O, A', ev, rv, r', pm⟩ := r.out hx
          obtain ⟨O1, B1, q1, q2, q3⟩ := rsv_rp rv ro e1
          have e2' : outsOf (sl.set i none) is ob1 = some (ys2, ob') := by
            have : ∀ (is : List Nat) (ob : List (Option LV)), i ∉ is → outsOf (sl.set i none) is ob = outsOf sl is ob := by
              intro is
              induction is with
              | nil => intro ob _; rfl
              | cons j js ih =>
                intro ob h
                unfold outsOf
                rw [List.getElem?_set_ne (fun e => h (by rw [e]; exact List.mem_cons_self))]
                split
                · split
                  · rw [ih _ fun z => h (List.mem_cons_of_mem _ z)]
                  · rfl
                · rfl
            rw [this is ob1 hn, e2]
          obtain ⟨Oo, C, p1, p2⟩ := outs_rp r' q2 e2' hd'
          refine ⟨O1 ++ Oo, C, ?_, ?_⟩
          · rw [List.filterMap_cons, ev]
            exact .cons q1 p1
          · have h1 : (A ++ B).Perm (O ++ A' ++ B) := List.Perm.append_right B pm
            have h2 : (O ++ A' ++ B).Perm (A' ++ (O ++ B)) := by rw [List.append_assoc]; exact pmid
            have h3 := ((h1.trans h2).trans (List.Perm.append_left A' q3)).trans pmid
            have h4 := h3.trans (List.Perm.append_left O1 p2)
            rwa [← List.append_assoc] at h4
        · cases e
      · cases e
    · cases e
theorem RpS.ofs {ob : List LV} {vs : List V} {B : List Addr} (r : Rps K H m F vs ob B) : RpS K H m F (vs.map some) (ob.map some) B := by
  induction ob generalizing vs B with
  | nil => cases r; exact .nil
  | cons x xs ih =>
    cases r with
    | cons r t => exact .so r (ih t)
end
end MP
/-! MP.26: a def keeps its promise -/
namespace MP
open PySem PySem.Spec PyProof.Rows L2

section
variable {K : PySem.W.Frag} {XR : (Addr → Prop) → Hp → Nat → List PyData → Value → Option Addr → Prop}
theorem RpS.nones {H : Hp} {m : List Addr} {F : Addr → Prop} {vs : L2.St} {sl : List (Option LV)} {A : List Addr} (r : RpS K H m F vs sl A) (k : Nat) : RpS K H m F (vs ++ List.replicate k none) (sl ++ List.replicate k none) A := by
  induction r with
  | nil =>
    induction k with
    | zero => exact .nil
    | succ k ih => exact .no ih
  | no _ ih => exact .no ih
  | so h _ ih => exact .so h ih
theorem nlS_start {xs : List LV} (h : nlAll xs = true) (k : Nat) : nlS (xs.map some ++ List.replicate k none) = true := by
  induction xs with
  | nil =>
    induction k with
    | zero => rfl
    | succ k ih => simpa [List.replicate_succ, nlS] using ih
  | cons x xs ih =>
    simp only [nlAll, List.all_cons, Bool.and_eq_true] at h
    simp [nlS, h.1, ih h.2]
theorem io_vals {vs : List V} {vs' : L2.St} {N : List Str} {io : List Nat} (hio : ∀ i ∈ io, i < vs.length) (h : ∀ i ∈ io, vs'[i]? = (L2.start N vs)[i]?) : (io.filterMap fun i => (vs'[i]?).join) = io.filterMap fun i => vs[i]? := by
  induction io with
  | nil => rfl
  | cons i is ih =>
    have hi := hio i List.mem_cons_self
    have e : (vs'[i]?).join = vs[i]? := by
      rw [h i List.mem_cons_self]
      unfold L2.start
      rw [List.getElem?_append_left (by simpa using hi), List.getElem?_map]
      cases vs[i]? <;> rfl
    rw [List.filterMap_cons, List.filterMap_cons, e, ih (fun j hj => hio j (List.mem_cons_of_mem _ hj)) fun j hj => h j (List.mem_cons_of_mem _ hj)]

theorem body_ok {mono : ∀ (F F' : Addr → Prop) (H : Hp) (c : Nat) (ps : List PyData) (cl : Value) (d : Option Addr), (ims ps = true ∨ ∀ a, F a → H a ≠ none → F' a) → XR F H c ps cl d → XR F' H c ps cl d}
    {cf : CF} {f np ns : Nat} {io : List Nat} {body : LS → SR} {N : List Str} {vs : List V} {H : Hp} {Q : VK} {E : XK} (hN : N.length = ns) (hio : ∀ i ∈ io, i < np) (hd : distinct io = true) (hcf : ∀ xs, cf f xs = runB np ns io body xs) (h : spF K XR cf f np io vs H Q E) :
    tS ⟨K, fun cl d _ H => E cl d H, XR, mono⟩ io body { nx := fun _ H' => Q .non H', rt := Q } (L2.start N vs) H := by
  obtain ⟨xs, R, O, hl, r, nd, nr, rs, hm⟩ := h
  rw [hcf] at hm
  unfold runB at hm
  by_cases hc : xs.length = np ∧ nlAll xs = true
  case neg => rw [if_neg hc] at hm; exact hm.elim
  rw [if_pos hc] at hm
  have hio' : ∀ i ∈ io, i < vs.length := fun i hi => by rw [hl]; exact hio i hi
  have li : LI K H R (L2.start N vs) ⟨xs.map some ++ List.replicate (ns - np) none, []⟩ [] O [] := by
    refine ⟨?_, .nil, by rw [List.append_nil]; exact nd, fun a z => nr a (by simpa using z), rs⟩
    rw [List.append_nil]
    have := (RpS.ofs r).nones (ns - np)
    unfold L2.start
    rw [hN, hl]
    exact this
  have nl : nlL ⟨xs.map some ++ List.replicate (ns - np) none, []⟩ = true := by
    simp [nlL, nlS_start hc.2, LV.nls]
  refine ⟨_, R, [], O, [], li, nl, ?_⟩
  have e0 : O ++ [] = O := List.append_nil O
  cases hb : body ⟨xs.map some ++ List.replicate (ns - np) none, []⟩ with
  | nxt s' =>
    rw [hb] at hm
    intro H' vs' m' A' B' st
    simp only [endOf] at hm
    cases eo : outsOf s'.sl io (s'.ob.map some) with
    | none => rw [eo] at hm; exact hm.elim
    | some p =>
      obtain ⟨ys, ob'⟩ := p
      rw [eo] at hm
      obtain ⟨Oo, C, q1, q2⟩ := outs_rp st.li.sl (RpS.ofs st.li.ob) eo hd
      rw [io_vals hio' st.io] at q1
      have inA : ∀ a ∈ Oo, a ∈ A' ++ B' := fun a z => q2.mem_iff.mpr (List.mem_append_left _ z)
      refine hm .non H' Oo [] (by have := st.pr; rwa [e0] at this) st.dm ?_ non_rp ?_ ?_ ?_
      · refine q1.pres (W := []) Pres.refl (fun b z => nomatch z) (fun _ _ e => by simp at e) (fun a f _ => ⟨fun w => f.1 (inA a (by simpa using w)), fun w => f.2 (.inl w)⟩) (fun _ _ _ z => nomatch z) (fun _ _ z => nomatch z) (.inl rfl)
      · rw [List.append_nil]; exact (List.nodup_append.mp (q2.nodup_iff.mp st.li.nd)).1
      · intro a z w
        rw [List.append_nil] at z
        exact st.li.nr a (inA a z) (.inl w)
      · intro a z
        rw [List.append_nil] at z
        have := st.gr a (.inl (inA a z))
        rwa [e0] at this
  | ret x s' =>
    rw [hb] at hm
    intro y H' vs' m' A' B' Ov st rx
    simp only [endOf] at hm
    cases er : rsv (s'.ob.map some) x with
    | none => rw [er] at hm; exact hm.elim
    | some p =>
      obtain ⟨y', ob1⟩ := p
      rw [er] at hm
      simp only at hm
      cases eo : outsOf s'.sl io ob1 with
      | none => rw [eo] at hm; exact hm.elim
      | some p =>
        obtain ⟨ys, ob'⟩ := p
        rw [eo] at hm
        have F0 : ∀ a, Fz (Rv R Ov) (A' ++ B') a → Fz R (A' ++ B' ++ Ov) a := fun a f => ⟨fun w => (List.mem_append.mp w).elim f.1 fun w => f.2 (.inr w), fun w => f.2 (.inl w)⟩
        have rsl : RpS K H' m' (Fz R (A' ++ B' ++ Ov)) vs' s'.sl A' := st.li.sl.pres (W := []) Pres.refl (fun b z => nomatch z) (fun _ _ e => e) (fun a f _ => F0 a f) (fun _ _ _ z => nomatch z) (fun _ _ z => nomatch z) (.inl rfl)
        obtain ⟨Oy, B1, p1, p2, p3⟩ := rsv_rp rx (RpS.ofs (st.li.ob.fz' F0)) er
        obtain ⟨Oo, C, q1, q2⟩ := outs_rp rsl p2 eo hd
        rw [io_vals hio' st.io] at q1
        have pm : (A' ++ B' ++ Ov).Perm (Oo ++ Oy ++ C) := by
          have h1 : (A' ++ B' ++ Ov).Perm (A' ++ (Ov ++ B')) := by
            rw [List.append_assoc]
            exact List.Perm.append_left A' List.perm_append_comm
          have h2 : (A' ++ (Ov ++ B')).Perm (A' ++ (Oy ++ B1)) := List.Perm.append_left A' p3
          have h3 : (A' ++ (Oy ++ B1)).Perm (Oy ++ (A' ++ B1)) := pmid
          have h4 : (Oy ++ (A' ++ B1)).Perm (Oy ++ (Oo ++ C)) := List.Perm.append_left Oy q2
          have h5 : (Oy ++ (Oo ++ C)).Perm (Oo ++ (Oy ++ C)) := pmid
          rw [List.append_assoc Oo]
          exact h1.trans (h2.trans (h3.trans (h4.trans h5)))
        have inA : ∀ a ∈ Oo ++ Oy, a ∈ A' ++ B' ++ Ov := fun a z => pm.mem_iff.mpr (List.mem_append_left _ z)
        have ndAll : (A' ++ B' ++ Ov).Nodup := List.nodup_append.mpr ⟨st.li.nd, st.nd, fun a h1 c h2 e => st.li.nr a h1 (.inr (e ▸ h2))⟩
        have F1 : ∀ a, Fz R (A' ++ B' ++ Ov) a → Fz R (Oo ++ Oy) a := fun a f => ⟨fun w => f.1 (inA a w), f.2⟩
        refine hm y H' Oo Oy (by have := st.pr; rwa [e0] at this) st.dm (q1.fz' F1) ?_ (List.nodup_append.mp (pm.nodup_iff.mp ndAll)).1 ?_ ?_
        · exact p1.pres (W := []) Pres.refl (fun b z => nomatch z) (fun _ _ e => e) (fun a f _ => F1 a f) (fun _ _ _ z => nomatch z) (fun _ _ z => nomatch z) (.inl rfl)
        · intro a z w
          rcases List.mem_append.mp (inA a z) with z | z
          · exact st.li.nr a z (.inl w)
          · exact st.nr a z w
        · intro a z
          have := st.gr a (List.mem_append.mp (inA a z))
          rwa [e0] at this
  | exc c ps s' =>
    rw [hb] at hm
    intro cl d H' vs' m' A' B' st xr
    simp only [endOf] at hm
    cases eo : outsOf s'.sl io (s'.ob.map some) with
    | none => rw [eo] at hm; exact hm.elim
    | some p =>
      obtain ⟨ys, ob'⟩ := p
      rw [eo] at hm
      obtain ⟨Oo, C, q1, q2⟩ := outs_rp st.li.sl (RpS.ofs st.li.ob) eo hd
      rw [io_vals hio' st.io] at q1
      have inA : ∀ a ∈ Oo, a ∈ A' ++ B' := fun a z => q2.mem_iff.mpr (List.mem_append_left _ z)
      refine hm cl d H' Oo (by have := st.pr; rwa [e0] at this) st.dm ?_ (mono _ _ _ _ _ _ _ (.inr fun a f _ => ⟨fun w => f.1 (inA a w), f.2⟩) xr) (List.nodup_append.mp (q2.nodup_iff.mp st.li.nd)).1 (fun a z w => st.li.nr a (inA a z) (.inl w)) fun a z => by
        have := st.gr a (.inl (inA a z))
        rwa [e0] at this
      exact q1.pres (W := []) Pres.refl (fun b z => nomatch z) (fun _ _ e => by simp at e) (fun a f _ => ⟨fun w => f.1 (inA a w), fun w => f.2 (.inl w)⟩) (fun _ _ _ z => nomatch z) (fun _ _ z => nomatch z) (.inl rfl)
  | brk s' => rw [hb] at hm; exact hm.elim
  | cnt s' => rw [hb] at hm; exact hm.elim
  | stuck => rw [hb] at hm; exact hm.elim
end
end MP
/-! MP.27: the context of a def's body; a def by its body's derivation -/
namespace MP
open PySem PySem.Spec PyProof.Rows L2

/-- what the rules ask of the context -/
structure Cc (k : Nat) (X : Cx) (Y : Yx) : Prop where
  hK : X.K = Y.K
  room : Room k X.A
  gd : X.A.guards = some []
  calm : X.calm = true
  nd : X.N.Nodup
  tk : Takes X Y.W
section
variable {k : Nat} {X : Cx} {Y : Yx}
theorem Cc.hu (c : Cc k X Y) : X.A.units + 64 < cLine := c.room.units
theorem Cc.blk (c : Cc k X Y) (s : Shared) (H : Hp) (scope : Scope) (cenv : Env) (fp : List Addr) : Cc k (X.blk s H scope cenv fp) Y.b :=
  ⟨c.hK, c.room, c.gd, c.calm, c.nd, fun u s' x => by
    obtain ⟨a, B, sI, pins, σ, H, cls, d, e, I, nb, up, sky, na, os, ag, w⟩ := x
    exact w⟩
end
section
variable {Pr : Program} {w : World} {K : PySem.W.Frag} {mg : Str → Option Value} {base : Heap} {XR : (Addr → Prop) → Hp → Nat → List PyData → Value → Option Addr → Prop}
abbrev Mono (XR : (Addr → Prop) → Hp → Nat → List PyData → Value → Option Addr → Prop) : Prop := ∀ (F F' : Addr → Prop) (H : Hp) (c : Nat) (ps : List PyData) (cl : Value) (d : Option Addr), (ims ps = true ∨ ∀ a, F a → H a ≠ none → F' a) → XR F H c ps cl d → XR F' H c ps cl d
abbrev yOf (K : PySem.W.Frag) (XR : (Addr → Prop) → Hp → Nat → List PyData → Value → Option Addr → Prop) (mono : Mono XR) (E : XK) : Yx := ⟨K, fun cl d _ H => E cl d H, XR, mono⟩
theorem cc_def {k : Nat} {mono : Mono XR} {N : List Str} {qual : Str} {scope : Scope} {f : Addr} {cdv : Value} {A : Around} {outer : List Env} {s : Shared} {H : Hp} {E : XK} (hr : Room k (A.deeper (envOfC qual scope s.heap.objs.size f cdv))) (hg : A.guards = some []) (hN : N.Nodup) :
    Cc k (cxOf (L2.CX Pr w) Pr w K mg base N qual scope f cdv A outer s H E) (yOf K XR mono E) :=
  ⟨rfl, hr, hg, rfl, hN, takes_of rfl rfl rfl rfl⟩
theorem pass_def {N : List Str} {qual : Str} {scope : Scope} {f : Addr} {cdv : Value} {A : Around} {outer : List Env} {s : Shared} {H : Hp} {E : XK} :
    PassesOwn (model Pr w) (cxOf (L2.CX Pr w) Pr w K mg base N qual scope f cdv A outer s H E).A (cxOf (L2.CX Pr w) Pr w K mg base N qual scope f cdv A outer s H E).env (cxOf (L2.CX Pr w) Pr w K mg base N qual scope f cdv A outer s H E).xe := passes_of rfl
theorem fn_step {k fi : Nat} {mono : Mono XR} {f : Addr} {x qual : Str} {st : Stmt} {fd : FuncData} {N ps : List Str} {d : BDef} {cf cf' : CF} (F : Fun K x qual st f fd) (S : FnScope N ps (defScope st)) (hN : N.length = d.ns) (hps : ps.length = d.np) (hio : ∀ i ∈ d.io, i < d.np) (hdi : distinct d.io = true)
    (hcf : ∀ xs, cf' fi xs = runB d.np d.ns d.io (d.body cf) xs)
    (hb : ∀ (cdv : Value) (A : Around) (outer : List Env) (s : Shared) (H : Hp) (E : XK), Cc k (cxOf (L2.CX Pr w) Pr w K mg base N qual (defScope st) f cdv A outer s H E) (yOf K XR mono E) →
      SB (yOf K XR mono E) (cxOf (L2.CX Pr w) Pr w K mg base N qual (defScope st) f cdv A outer s H E) d.io (d.body cf) (defBody st)) :
    FnG Pr w K mg base (k + 1) f fd ps (spF K XR cf' fi d.np d.io) := by
  refine fn_ofG F S (fun vs H Q E h => ?_) fun cdv A outer s H vs Q E hr hg h => ⟨_, hb cdv A outer s H E (cc_def hr hg S.nd), body_ok hN hio hdi hcf h⟩
  obtain ⟨xs, R, O, hl, _⟩ := h
  rw [hl, hps]
/-- the k-th def of a table -/
theorem callF_at {P : List BDef} {n fi : Nat} {d : BDef} (h : P[fi]? = some d) : ∀ xs, callF P (n + 1) fi xs = runB d.np d.ns d.io (d.body (callF P n)) xs := fun xs => by
  show (match P[fi]? with
    | some d => runB d.np d.ns d.io (d.body (callF P n)) xs
    | none => CRes.stuck) = _
  rw [h]
end
end MP
/-! MP.28: the end of a law, from the table of its defs -/
namespace MP
open PySem PySem.Spec PyProof.Rows L2

/-- the script, as it is told -/
def scrD (ns : List Int) : PyData := .dict [(.none, .list (ns.map .int))]
theorem scr_rd {K : PySem.W.Frag} {H : Hp} {a : Addr} {ns : List Int} (hO : Only H) (h : SqL K H a (ns.map V.int)) : RD K H (.ref a) (scrD ns) [] := by
  have rds : RDs K H (ns.map V.int) (ns.map PyData.int) [] := by
    clear h
    induction ns with
    | nil => exact .nil
    | cons n ns ih => exact RDs.cons (as := []) (.int n) ih
  refine .scr ?_ rds
  rcases h with (h | ⟨o, h⟩) | h
  · rcases hO a with z | ⟨o, xs, z⟩ <;> rw [h] at z <;> cases z
  · exact .inl ⟨o, h⟩
  · exact .inr h
theorem sp_script {K : PySem.W.Frag} {XR : (Addr → Prop) → Hp → Nat → List PyData → Value → Option Addr → Prop} {cf : CF} {f : Nat} {H : Hp} {a : Addr} {ns : List Int} (hO : Only H) (h : SqL K H a (ns.map V.int)) (hc : cf f [.imm (scrD ns)] = .ok (.imm (.bool true)) []) :
    spF K XR cf f 1 [] [.ref a] H (fun v _ => v = .bl true) fun _ _ _ => False := by
  refine ⟨[.imm (scrD ns)], fun _ => False, [], rfl, Rps.cons (O := []) (.imm (scr_rd hO h) fun _ z => nomatch z) .nil, List.nodup_nil, (fun _ z => nomatch z), (fun _ z => z.elim), ?_⟩
  rw [hc]
  intro v H' Oo Or _ _ _ r _ _ _
  cases r with
  | imm r f => cases r; rfl

theorem end_call {P : Program} {w : World} {K : PySem.W.Frag} {mg mb : Str → Option Value} {k : Nat} {fa a : Addr} {fd : FuncData} {x : Str} {sp : Sp} {s₁ : Shared} {vs : List Value} {ns : List Int}
    (KX : K.In s₁.heap) (hns : s₁.heap.Ns mainGlobals mg) (hb : s₁.heap.Ns builtinsNs mb) (hbb : ∀ x : Str, x ≠ "__name__" → mb x = bootBuiltins x) (hlim : s₁.heap.NoLimit) (hg : s₁.gens = #[])
    (ha : s₁.heap.get? a = some { cls := .type "list", data := .seq vs.toArray }) (hi : IntsAre vs ns) (hl : ns.length ≤ sizeLine) (hr : Room k callerA)
    (F : ∀ base : Heap, K.In base → base.Ns mainGlobals mg → FnG P w K mg base k fa fd [x] sp) (hbind : ∀ (s : Shared) (u : Value), BindsTo s fd ⟨[u], []⟩ [(x, u)])
    (hsp : ∀ H : Hp, Only H → SqL K H a (ns.map V.int) → sp [.ref a] H (fun v _ => v = .bl true) fun _ _ _ => False)
    (hCX : ∀ H e s', L2.CX P w [] H s₁ (fun _ _ _ => False) e s' → False) :
    codeAny (model P w) callerA (.call (.ref fa) ⟨[.ref a], []⟩) (fun r s' => r = .ok (.ret (.bool true)) ∧ OldK s₁.heap s'.heap ∧ s'.os = s₁.os ∧ AllBare s'.gens) s₁ := by
  -- over a heap that tells of the script alone
  have go : ∀ H : Hp, Only H → SqL K H a (ns.map V.int) → HOk P w H s₁.heap → (∀ b, H b ≠ none → b = a) → (H a ≠ none → K.lookup a = none) →
      codeAny (model P w) callerA (.call (.ref fa) ⟨[.ref a], []⟩) (fun r s' => r = .ok (.ret (.bool true)) ∧ OldK s₁.heap s'.heap ∧ s'.os = s₁.os ∧ AllBare s'.gens) s₁ := by
    intro H hO hS hok only hK
    have isA : ∀ {b : Addr}, (¬ b = a) → H b = none := fun {b} n => Classical.byContradiction fun q => n (only b q)
    have notDict : ∀ {b : Addr} {o : Obj} {es : Array DictEntry} {ep : Nat}, s₁.heap.get? b = some o → o.data = .dict es ep → H b = none := fun {b o es ep} e d => isA fun z => by
      subst z
      rw [ha] at e
      cases e
      have d' : Data.seq vs.toArray _ = Data.dict es ep := d
      cases d'
    have ns_ : ∀ {b : Addr} {m : Str → Option Value}, s₁.heap.Ns b m → (hidT s₁.heap H).Ns b m := fun {b m} ⟨o, es, ep, e, d, r⟩ => ⟨o, es, ep, hidT_get e (notDict e d), d, r⟩
    have kin : K.In (hidT s₁.heap H) := fun b o e => hidT_get (KX b o e) (by
      by_cases z : b = a
      · subst z
        by_cases q : H b = none
        · exact q
        · rw [hK q] at e; cases e
      · exact isA z)
    obtain ⟨mc, l1, l2⟩ := hlim
    have e0 : Env0 P w K mg (hidT s₁.heap H) callerA [] s₁ H :=
      ⟨rfl, ⟨kin, ns_ hns, ⟨mb, ns_ hb, hbb⟩, ⟨mc, ns_ l1, l2⟩⟩, fun b o e => of_hidT e, Nat.le_of_eq (hidT_size _ _), trivial, fun b hb => (List.not_mem_nil hb).elim, hok, .of_eq hg⟩
    refine codeAny_mono ((F _ kin (ns_ hns)).run callerA [] s₁ H ⟨[.ref a], []⟩ [.ref a] [.ref a] _ _ hr rfl e0 (hbind s₁ (.ref a)) (.cons rfl .nil) (hsp H hO hS)) fun r s' h => ?_
    match r, h with
    | .error e, h => exact (hCX H e s' h).elim
    | .ok .next, h => exact False.elim h
    | .ok .brk, h => exact False.elim h
    | .ok .cont, h => exact False.elim h
    | .ok (.ret u), h =>
      obtain ⟨v, H', os, bare, un, hok', r', q⟩ := h
      have q : v = .bl true := q
      subst q
      obtain rfl : u = Value.bool true := r'
      refine ⟨rfl, OldK.of_keep fun b o e => ?_, os, bare⟩
      by_cases hn : H b = none
      · exact un.keep b o e hn (fun z => (List.not_mem_nil z).elim) (by simp)
      · rcases hO b with z | ⟨ob, xs, z⟩
        · exact absurd z hn
        · have old := (hok b _ z).1
          have new := (hok' b _ (un.frzs b ob _ z)).1
          rw [old] at e
          cases e
          exact new
  have rv := vals_ints hi
  by_cases hk : K.lookup a = none
  · have hit : ∀ {b : Addr} {u : HO}, (if b = a then some (HO.frz { cls := .type "list", data := .seq vs.toArray } (.lst (ns.map V.int))) else none) = some u → b = a ∧ u = .frz { cls := .type "list", data := .seq vs.toArray } (.lst (ns.map V.int)) := fun {b u} z => by
      by_cases hb : b = a
      · rw [if_pos hb] at z; exact ⟨hb, (Option.some.inj z).symm⟩
      · rw [if_neg hb] at z; cases z
    refine go (fun b => if b = a then some (.frz { cls := .type "list", data := .seq vs.toArray } (.lst (ns.map V.int))) else none) (fun b => ?_) (.inl (.inr ⟨_, if_pos rfl⟩)) (fun b u z => ?_) (fun b z => ?_) fun _ => hk
    · by_cases hb : b = a
      · exact .inr ⟨_, _, if_pos hb⟩
      · exact .inl (if_neg hb)
    · obtain ⟨rfl, rfl⟩ := hit z
      exact ⟨ha, by rw [List.length_map]; exact hl, vs, _, rv, ha⟩
    · exact Classical.byContradiction fun hb => z (if_neg hb)
  · obtain ⟨o, ho⟩ := Option.ne_none_iff_exists'.mp hk
    have e := KX a o ho
    rw [ha] at e
    cases e
    exact go (fun _ => none) (fun _ => .inl rfl) (.inr ⟨_, vs.toArray, _, ho, rfl, rfl, rfl, by rw [List.size_toArray, hi.length]; exact hl, by simpa using rv⟩) (fun b u z => nomatch z) (fun b z => absurd rfl z) fun z => absurd rfl z
end MP
/-! MP.29: short words for the printed derivations: a leaf's flag is false, a node's comes last (hf) -/
namespace MP
open PySem PySem.Spec PyProof.Rows L2
section
variable {k : Nat} {X : Cx} {Y : Yx} {b ba bb bc : Bool} {fa fb fc : EvF} {ea eb ec : Expr} {es : List Expr} {gA : LS → Res (List LV × LS)} {pos : Pos}
theorem vv (i : Nat) {x : Str} (hN : X.N[i]? = some x := by rfl) (hv : Vis X.env.scope x := by first | exact Or.inl rfl | exact Or.inr (Or.inl rfl) | exact Or.inr (Or.inr rfl)) (hd : (x == ("__debug__" : Str)) = false := by decide)
    (hcd : (x == ("__classdict__" : Str)) = false := by decide) : SE Y X false (varE i) (.Name x pos) := se_var hN hv hd hcd
theorem tv (i : Nat) {x : Str} (hN : X.N[i]? = some x := by rfl) (hv : Vis X.env.scope x := by first | exact Or.inl rfl | exact Or.inr (Or.inl rfl) | exact Or.inr (Or.inr rfl)) (hd : (x == ("__debug__" : Str)) = false := by decide)
    (hcd : (x == ("__classdict__" : Str)) = false := by decide) : SE Y X true (takeE i) (.Name x pos) := se_take hN hv hd hcd
theorem c_int {k pos} {i : Int} : SE Y X false (fun s => .ok (.imm (.int i), s)) (.Constant (.int i) k pos) := se_int
theorem c_str {k pos} {x : Str} : SE Y X false (fun s => .ok (.imm (.str x), s)) (.Constant (.str x) k pos) := se_str
theorem c_bool {k pos} {x : Bool} : SE Y X false (fun s => .ok (.imm (.bool x), s)) (.Constant (.bool x) k pos) := se_bool
theorem c_none {k pos} : SE Y X false (fun s => .ok (.imm .none, s)) (.Constant .none k pos) := se_none
theorem e_ix (c : Cc k X Y) (ha : SE Y X ba fa ea) (hb : SE Y X bb fb eb) (hs : PlainIx eb := by intro _ _; rfl) (hf : (ba || bb) = b := by rfl) : SE Y X b (op2E ixK lvB bb fa fb) (.Subscript ea eb pos) := hf ▸ se_ix (c.hK ▸ ixr c.hu) ha hb hs
theorem e_op {op : Operator} (ho : OpR X (binaryOp op) (Op2 Y.K (bopD op))) (ha : SE Y X ba fa ea) (hb : SE Y X bb fb eb) (hf : (ba || bb) = b := by rfl) : SE Y X b (op2E (bopD op) lvB bb fa fb) (.BinOp ea op eb pos) := hf ▸ se_op ho ha hb
theorem e_cmp {op : CmpOp} (ho : OpR X (compareOp op) (Op2 Y.K (cmpK op))) (ha : SE Y X ba fa ea) (hb : SE Y X bb fb eb) (hm : behindInMarks op eb = false := by rfl) (hf : (ba || bb) = b := by rfl) : SE Y X b (op2E (cmpK op) lvC bb fa fb) (.Compare ea [op] [eb] pos) := hf ▸ se_cmp ho ha hb hm
theorem t_cmp {op : CmpOp} (ho : OpR X (compareOp op) (Op2 Y.K (cmpK op))) (ha : SE Y X ba fa ea) (hb : SE Y X bb fb eb) (hm : behindInMarks op eb = false := by rfl) (hf : (ba || bb) = b := by rfl) : ST Y X b (fun s => tstR (op2E (cmpK op) lvC bb fa fb s)) (.Compare ea [op] [eb] pos) := hf ▸ st_cmp ho ha hb hm
theorem a_nil : SA Y X false (fun s => .ok ([], s)) [] := sa_nil
theorem a_cons (ha : SE Y X ba fa ea) (hb : SA Y X bb gA es) (hs : ∀ v p, ea ≠ .Starred v p := by intro _ _ z; cases z) (hf : (ba || bb) = b := by rfl) : SA Y X b (consA bb fa gA) (ea :: es) := hf ▸ sa_cons ha hb hs

/-! ### operators, built-ins: as the context has them -/
theorem o_add (c : Cc k X Y) : OpR X (binaryOp .Add) (Op2 Y.K (bopD .Add)) := c.hK ▸ op2_add
theorem o_sub (c : Cc k X Y) : OpR X (binaryOp .Sub) (Op2 Y.K (bopD .Sub)) := c.hK ▸ op2_sub
theorem o_mul (c : Cc k X Y) : OpR X (binaryOp .Mult) (Op2 Y.K (bopD .Mult)) := c.hK ▸ op2_mul
theorem o_fdiv (c : Cc k X Y) : OpR X (binaryOp .FloorDiv) (Op2 Y.K (bopD .FloorDiv)) := c.hK ▸ op2_fdiv
theorem o_mod (c : Cc k X Y) : OpR X (binaryOp .Mod) (Op2 Y.K (bopD .Mod)) := c.hK ▸ op2_mod
theorem o_pow (c : Cc k X Y) : OpR X (binaryOp .Pow) (Op2 Y.K (bopD .Pow)) := c.hK ▸ op2_pow
theorem q_eq (c : Cc k X Y) : OpR X (compareOp .Eq) (Op2 Y.K (cmpK .Eq)) := c.hK ▸ op2_eq c.hu
theorem q_ne (c : Cc k X Y) : OpR X (compareOp .NotEq) (Op2 Y.K (cmpK .NotEq)) := c.hK ▸ op2_ne c.hu
theorem q_lt (c : Cc k X Y) : OpR X (compareOp .Lt) (Op2 Y.K (cmpK .Lt)) := c.hK ▸ op2_lt c.hu
theorem q_le (c : Cc k X Y) : OpR X (compareOp .LtE) (Op2 Y.K (cmpK .LtE)) := c.hK ▸ op2_le c.hu
theorem q_gt (c : Cc k X Y) : OpR X (compareOp .Gt) (Op2 Y.K (cmpK .Gt)) := c.hK ▸ op2_gt c.hu
theorem q_ge (c : Cc k X Y) : OpR X (compareOp .GtE) (Op2 Y.K (cmpK .GtE)) := c.hK ▸ op2_ge c.hu
theorem q_in (c : Cc k X Y) : OpR X (compareOp .In) (Op2 Y.K (cmpK .In)) := c.hK ▸ op2_in c.hu
theorem q_notin (c : Cc k X Y) : OpR X (compareOp .NotIn) (Op2 Y.K (cmpK .NotIn)) := c.hK ▸ op2_notin c.hu
theorem q_is (c : Cc k X Y) : OpR X (compareOp .Is) (Op2 Y.K (cmpK .Is)) := c.hK ▸ op2_is
theorem q_isnot (c : Cc k X Y) : OpR X (compareOp .IsNot) (Op2 Y.K (cmpK .IsNot)) := c.hK ▸ op2_isnot
theorem b_len (c : Cc k X Y) : CallR X (.builtin "len") (CallN Y.K (biD .len)) := c.hK ▸ cn_len
theorem b_int (c : Cc k X Y) : CallR X (.type "int") (CallN Y.K (biD .int)) := c.hK ▸ cn_int
theorem b_abs (c : Cc k X Y) : CallR X (.builtin "abs") (CallN Y.K (biD .abs)) := c.hK ▸ cn_abs
theorem b_tuple (c : Cc k X Y) : CallR X (.type "tuple") (CallN Y.K (biD .tuple)) := c.hK ▸ cn_tuple
theorem b_list (c : Cc k X Y) : CallR X (.type "list") (CallN Y.K (biD .list)) := c.hK ▸ cn_list
theorem b_sum (c : Cc k X Y) : CallR X (.builtin "sum") (CallN Y.K (biD .sum)) := c.hK ▸ cn_sum c.calm
theorem b_all (c : Cc k X Y) : CallR X (.builtin "all") (CallN Y.K (biD .all)) := c.hK ▸ cn_all c.calm
theorem b_repr (c : Cc k X Y) : CallR X (.builtin "repr") (CallN Y.K (biD .repr)) := c.hK ▸ cn_repr c.gd c.hu
theorem b_sorted (c : Cc k X Y) : CallR X (.builtin "sorted") (CallN Y.K (biD .sorted)) := c.hK ▸ cn_sorted c.hu
theorem e_bi {id : String} {g : List PyData → Option RK} {x : Str} {p : Pos} (hc : CallR X (.builtin id) (CallN Y.K g)) (hm : X.mg x = none) (h : SA Y X b gA (ea :: es)) (hg : Gl X x := by rfl) (hv : bootBuiltins x = some (.builtin id) := by rfl) (hn : x ≠ "__name__" := by decide) (hdb : (x == ("__debug__" : Str)) = false := by decide)
    (he : starEach (ea :: es) X.env = (false, eval ea X.env) :: starEach es X.env := by rfl) (hpl : (backTo pos (starEach es X.env)).any (·.1) = false := by rfl) : SE Y X b (biE g gA) (.Call (.Name x p) (ea :: es) [] pos) := se_callB hc hg hm hv h hn hdb he hpl
theorem e_ty {id : String} {g : List PyData → Option RK} {x : Str} {p : Pos} (hc : CallR X (.type id) (CallN Y.K g)) (hm : X.mg x = none) (h : SA Y X b gA (ea :: es)) (hg : Gl X x := by rfl) (hv : bootBuiltins x = some (.type id) := by rfl) (hn : x ≠ "__name__" := by decide) (hdb : (x == ("__debug__" : Str)) = false := by decide)
    (he : starEach (ea :: es) X.env = (false, eval ea X.env) :: starEach es X.env := by rfl) (hpl : (backTo pos (starEach es X.env)).any (·.1) = false := by rfl) : SE Y X b (biE g gA) (.Call (.Name x p) (ea :: es) [] pos) := se_callT hc hg hm hv h hn hdb he hpl
/-! ### tests -/
theorem t_val (h : SE Y X b fa ea) (he : ∀ whole, isTrue ea X.env whole = (do let v ← whole; standAt ea.pos; holding [v] (truthy v)) := by intro _; rfl) : ST Y X b (fun s => tstR (fa s)) ea := st_val h he
theorem t_not (h : ST Y X b (fun s => tstR (fa s)) ea) : ST Y X b (fun s => tstR (notE fa s)) (.UnaryOp .Not ea pos) := st_not h
theorem e_ite (hc : ST Y X bc (fun s => tstR (fc s)) ec) (ha : SE Y X ba fa ea) (hb : SE Y X bb fb eb) (hf : (bc || ba || bb) = b := by rfl) : SE Y X b (iteE fc fa fb) (.IfExp ec ea eb pos) := hf ▸ se_ite hc ha hb
theorem e_and {rest : List Expr} (ha : SE Y X ba fa ea) (hb : SE Y X bb fb (.BoolOp .And (eb :: rest) pos)) (hf : (ba || bb) = b := by rfl) : SE Y X b (andE fa fb) (.BoolOp .And (ea :: eb :: rest) pos) := hf ▸ se_and ha hb
theorem e_or {rest : List Expr} (ha : SE Y X ba fa ea) (hb : SE Y X bb fb (.BoolOp .Or (eb :: rest) pos)) (hf : (ba || bb) = b := by rfl) : SE Y X b (orE fa fb) (.BoolOp .Or (ea :: eb :: rest) pos) := hf ▸ se_or ha hb
/-! ### slices -/
theorem e_sl (c : Cc k X Y) {bd : Bool} {fl fh : LS → Res (Option Int × LS)} {lo hi : Option Expr} {p2 : Pos} (ha : SE Y X ba fa ea) (hl : SO Y X bb fl lo) (hh : SO Y X bc fh hi) (hd : (bb || bc) = bd := by rfl) (hf : (ba || bd) = b := by rfl) : SE Y X b (slE bd fa fl fh) (.Subscript ea (.Slice lo hi none p2) pos) := by
  subst hd
  exact hf ▸ se_sl (c.hK ▸ slr) ha hl hh
theorem o_none : SO Y X false (fun s => .ok (none, s)) none := so_none
theorem o_some (h : SE Y X b fa ea) : SO Y X b (intO fa) (some ea) := so_some h
/-! ### statements -/
variable {io : List Nat} {ga gb : LS → SR}
theorem s_ret (h : SE Y X b fa ea) : SS Y X io (fun s => (fa s).toS fun p => .ret p.1 p.2) (.Return (some ea) pos) := ss_retE h
theorem s_expr (h : SE Y X b fa ea) (hs : swapsWith ea none pos.line X.env = pure false := by rfl) : SS Y X io (fun s => (fa s).toS fun p => .nxt p.2) (.Expr ea pos) := ss_expr h hs
theorem s_if {ec : Expr} {p q : List Stmt} (hc : ST Y X b (fun s => tstR (fa s)) ec) (ha : SB Y X io ga p) (hb : SB Y X io gb q) : SS Y X io (fun s => (tstR (fa s)).toS fun p => if p.1 then ga p.2 else gb p.2) (.If ec p q pos) := ss_if hc ha hb
/-- name = value -/
def setS1 (i : Nat) (fa : EvF) : LS → SR := fun s => (fa s).toS fun p => if p.1.nl then match bindT (.nm i) p.1 p.2.sl with
      | some sl' => .nxt ⟨sl', p.2.ob⟩
      | none => .stuck
    else .stuck
theorem s_set (c : Cc k X Y) (i : Nat) {x : Str} {pos' : Pos} (he : SE Y X b fa ea) (hi : X.N[i]? = some x := by rfl) (hx : Loc X.env.scope x := by first | exact Or.inl rfl | exact Or.inr rfl) (hio : i ∉ io := by decide) (hs : swapsWith ea (some (.Name x pos')) pos.line X.env = pure false := by rfl) (hf : X.fn x = true ∨ X.env.scope.names.lookup x = some .local := by first | exact Or.inl rfl | exact Or.inr rfl) :
    SS Y X io (setS1 i fa) (.Assign [.Name x pos'] ea pos) := ss_set c.nd hi hx he hio hs hf

theorem s_for (c : Cc k X Y) (hp : PassesOwn (model X.prog X.w) X.A X.env X.xe) {f : ItF} {t : Tg} {tg iter : Expr} {body : List Stmt} (hi : SI Y X b f tg iter) (hg : PG X tg (tgT Y.K t)) (hb : SB Y X io ga body) (ht : ∀ i ∈ tgS t, i ∉ io := by decide)
    (hs : ∀ x, foldedSetIterable iter X.env x = pure x := by intro _; rfl) : SS Y X io (fun s => (f s).toS fun p => if p.1.2 then .stuck else forL t ga p.1.1 p.2) (.For tg iter body [] pos) := ss_for hp c.calm hi hg ht hb hs
theorem s_whl (hp : PassesOwn (model X.prog X.w) X.A X.env X.xe) {ec : Expr} {body : List Stmt} (hc : ST Y X b (fun s => tstR (fa s)) ec) (hb : SB Y X io ga body) : SS Y X io (fun s => whlL (fun s => tstR (fa s)) ga fuel s) (.While ec body [] pos) := ss_whl hp hc hb
theorem g_nm (c : Cc k X Y) (i : Nat) {x : Str} (hi : X.N[i]? = some x := by rfl) (hx : Loc X.env.scope x := by first | exact Or.inl rfl | exact Or.inr rfl) (hf : X.fn x = true ∨ X.env.scope.names.lookup x = some .local := by first | exact Or.inl rfl | exact Or.inr rfl) : PG X (.Name x pos) (tgT Y.K (.nm i)) := pg_name c.nd hi hx hf
theorem i_any (c : Cc k X Y) {tg : Expr} (h : SE Y X b fa ea) : SI Y X b (itP fa) tg ea := si_any c.hK h
theorem i_rng1 (c : Cc k X Y) {tg : Expr} {p : Pos} (hm : X.mg "range" = none) (h : SA Y X b gA [ea]) (hg : Gl X "range" := by rfl) (hs : starEach [ea] X.env = [(false, eval ea X.env)] := by rfl) : SI Y X b (itR true gA) tg (.Call (.Name "range" p) [ea] [] pos) := si_rng1 hg hm h hs
theorem i_rng2 (c : Cc k X Y) {tg : Expr} {p : Pos} (hm : X.mg "range" = none) (h : SA Y X b gA [ea, eb]) (hg : Gl X "range" := by rfl) (hs : starEach [ea, eb] X.env = [(false, eval ea X.env), (false, eval eb X.env)] := by rfl) (hs2 : starEach [eb] X.env = [(false, eval eb X.env)] := by rfl) : SI Y X b (itR false gA) tg (.Call (.Name "range" p) [ea, eb] [] pos) := si_rng2 hg hm h hs hs2
theorem p_nm (i : Nat) {x : Str} (hN : X.N[i]? = some x := by rfl) (hv : Vis X.env.scope x := by first | exact Or.inl rfl | exact Or.inr (Or.inl rfl) | exact Or.inr (Or.inr rfl)) (hd : (x == ("__debug__" : Str)) = false := by decide) (hcd : (x == ("__classdict__" : Str)) = false := by decide) : SP Y X i (fun _ => .ok []) (.Name x pos) := sp_name hN hv hd hcd
theorem p_ix (c : Cc k X Y) {i : Nat} {fp : LS → Res (List PyData)} (ha : SP Y X i fp ea) (hb : SE Y X false fb eb) (hs : PlainIx eb := by intro _ _; rfl) : SP Y X i (snocP fp fb) (.Subscript ea eb pos) := sp_ix c.hK c.hu ha hb hs

theorem w_and1 {f : LS → Res (Bool × LS)} (h : ST Y X b f ea) : SW Y X b f (.BoolOp .And [ea] pos) := pw_and1 h
theorem w_or1 {f : LS → Res (Bool × LS)} (h : ST Y X b f ea) : SW Y X b f (.BoolOp .Or [ea] pos) := pw_or1 h
theorem w_and {rest : List Expr} (ha : ST Y X ba (fun s => tstR (fa s)) ea) (hb : SW Y X bb (fun s => tstR (fb s)) (.BoolOp .And (eb :: rest) pos)) (hf : (ba || bb) = b := by rfl) : SW Y X b (fun s => tstR (andE fa fb s)) (.BoolOp .And (ea :: eb :: rest) pos) := hf ▸ sw_and ha hb
theorem w_or {rest : List Expr} (ha : ST Y X ba (fun s => tstR (fa s)) ea) (hb : SW Y X bb (fun s => tstR (fb s)) (.BoolOp .Or (eb :: rest) pos)) (hf : (ba || bb) = b := by rfl) : SW Y X b (fun s => tstR (orE fa fb s)) (.BoolOp .Or (ea :: eb :: rest) pos) := hf ▸ sw_or ha hb
theorem t_w {f : LS → Res (Bool × LS)} (h : SW Y X b f ea) : ST Y X b f ea := PW.pt h
/-! ### calls -/
theorem ac_nil : SC Y X false [] (fun s => .ok ([], s)) [] := sc_nil
theorem ac_cons {sh : List (Option Nat)} {gC : LS → Res (List AV × LS)} (ha : SE Y X ba fa ea) (hb : SC Y X bb sh gC es) (hs : ∀ v p, ea ≠ .Starred v p := by intro _ _ z; cases z) (hf : (ba || bb) = b := by rfl) : SC Y X b (none :: sh) (consC bb fa gC) (ea :: es) := hf ▸ sc_cons ha hb hs
theorem SC_up {sh : List (Option Nat)} {gC : LS → Res (List AV × LS)} (h : SC Y X b sh gC es) : SC Y X true sh gC es := PAw h fun vs H Q h => by
  obtain ⟨s, R, m, A, B, l, n, h⟩ := h
  refine ⟨s, R, m, A, B, l, fun _ => n rfl, ?_⟩
  revert h
  cases gC s with
  | ok p => exact fun h y H' m' A' B' Ov x r => h y H' m' A' B' Ov (x.any fun z => nomatch z) ⟨r.1, r.2.1, fun z => nomatch z⟩
  | exc c ps s' => exact fun h cl d H' m' A' B' x q => h cl d H' m' A' B' (x.any fun z => nomatch z) q
  | stuck => exact id
theorem ac_slot {sh : List (Option Nat)} {gC : LS → Res (List AV × LS)} (i : Nat) {y : Str} {py : Pos} (hb : SC Y X b sh gC es) (hN : X.N[i]? = some y := by rfl) (hv : Vis X.env.scope y := by first | exact Or.inl rfl | exact Or.inr (Or.inl rfl) | exact Or.inr (Or.inr rfl)) (hd : (y == ("__debug__" : Str)) = false := by decide) (hcd : (y == ("__classdict__" : Str)) = false := by decide) :
    SC Y X true (some i :: sh) (slotC i gC) (.Name y py :: es) := sc_slot hN hv hd hcd (SC_up hb)
/-- what a def of the module is, to its callers -/
structure Cal (k : Nat) (X : Cx) (Y : Yx) (x : Str) (cf : CF) (g np : Nat) (io : List Nat) : Prop where
  ex : ∃ (f : Addr) (fd : FuncData) (ps : List Str), FnG X.prog X.w X.K X.mg X.base k f fd ps (spF Y.K Y.XR cf g np io) ∧ X.mg x = some (.ref f) ∧ PySem.W.keepIn X.K (.ref f) = true ∧ Binds X.K fd ps []
theorem e_call {sh : List (Option Nat)} {gC : LS → Res (List AV × LS)} {x : Str} {p : Pos} {cf : CF} {g np : Nat} {io : List Nat} (c : Cc k X Y) (F : Cal k X Y x cf g np io) (ha : SC Y X b sh gC (ea :: es)) (hio : ioOf 0 sh = io := by rfl) (hnp : sh.length = np := by rfl) (hg : Gl X x := by rfl) (hdb : (x == ("__debug__" : Str)) = false := by decide)
    (he : starEach (ea :: es) X.env = (false, eval ea X.env) :: starEach es X.env := by rfl) (hpl : (backTo pos (starEach es X.env)).any (·.1) = false := by rfl) : SE Y X b (callEE cf g gC) (.Call (.Name x p) (ea :: es) [] pos) := by
  obtain ⟨f, fd, ps, h1, h2, h3, h4⟩ := F.ex
  exact se_call hio hnp h1 c.room c.gd c.tk hg h2 h3 h4 ha hdb he hpl
theorem Cal.blk {x : Str} {cf : CF} {g np : Nat} {io : List Nat} (F : Cal k X Y x cf g np io) (s : Shared) (H : Hp) (scope : Scope) (cenv : Env) (fp : List Addr) : Cal k (X.blk s H scope cenv fp) Y.b x cf g np io := ⟨F.ex⟩

theorem _root_.MP.FnG.up {P : Program} {w : World} {K : PySem.W.Frag} {mg : Str → Option Value} {base : Heap} {j k : Nat} {f : Addr} {fd : FuncData} {ps : List Str} {sp : Sp} (F : FnG P w K mg base j f fd ps sp) (h : j ≤ k) : FnG P w K mg base k f fd ps sp :=
  ⟨F.len, fun A outer s H args us vs Q E hr hg e0 hb hv hs => F.run A outer s H args us vs Q E (hr.mono h) hg e0 hb hv hs⟩
/-! ### comprehensions -/
abbrev Blk (X : Cx) (scope : Scope) (s : Shared) (H : Hp) (C : Addr) (cl : List (Str × Addr)) (fp : List Addr) : Cx := X.blk s H scope (compEnvC scope cl C X.env) fp
theorem l_none {X : Cx} {Y : Yx} : PTs X [] (tG Y false relB (fun s => .ok (true, s))) := pts_none
theorem l_one {X : Cx} {Y : Yx} {b : Bool} {e : Expr} {f : LS → Res (Bool × LS)} (h : ST Y X b f e) : PTs X [e] (tG Y b relB f) := pts_one h
theorem e_lc (c : Cc k X Y) (ow : List (Str × Nat)) (own : List Nat) {elt tg iter : Expr} {ifs : List Expr} {scope : Scope} {fi : ItF} {t : Tg} {ft : LS → Res (Bool × LS)} {fe : EvF} {bi bt bl be : Bool} (hi : SI Y X bi fi tg iter)
    (hg : ∀ (s : Shared) (H : Hp) (C : Addr) (cl : List (Str × Addr)) (fp : List Addr), Cc k (Blk X scope s H C cl fp) Y.b → PG (Blk X scope s H C cl fp) tg (tgT Y.K t))
    (htt : ∀ (s : Shared) (H : Hp) (C : Addr) (cl : List (Str × Addr)) (fp : List Addr), Cc k (Blk X scope s H C cl fp) Y.b → PTs (Blk X scope s H C cl fp) ifs (tG Y.b bt relB ft))
    (he : ∀ (s : Shared) (H : Hp) (C : Addr) (cl : List (Str × Addr)) (fp : List Addr), Cc k (Blk X scope s H C cl fp) Y.b → SE Y.b (Blk X scope s H C cl fp) bl fe elt)
    (ok : BlkOk X.N X.env.scope scope ow := by exact blkOk_by (by rfl)) (ho : ow.map (·.2) = own := by rfl) (ht : ∀ i ∈ tgS t, i ∈ own := by decide) (hs : ∀ x, foldedSetIterable iter X.env x = pure x := by intro _; rfl)
    (hbe : (bt || bl) = be := by rfl) (hf : (bi || be) = b := by rfl) : SE Y X b (lcE own be t fi ft fe) (.ListComp elt [⟨tg, iter, ifs, 0⟩] scope pos) :=
  hf ▸ se_lc ho ht (fun e => by rw [← hbe, e]; rfl) (fun e => by rw [← hbe, e]; cases bt <;> rfl) c.calm c.nd hi ok (fun s H C cl fp => hg s H C cl fp (c.blk ..)) (fun s H C cl fp => htt s H C cl fp (c.blk ..)) (fun s H C cl fp => he s H C cl fp (c.blk ..)) hs

/-! ### methods of lists -/
variable {eo : Expr} {apos cpos : Pos} {i : Nat} {fp : LS → Res (List PyData)} {bA : Bool}
theorem m_append (c : Cc k X Y) (bad : Bool) (ho : SP Y X i fp eo) (ha : SA Y X bA gA (ea :: es)) (hp : bad = false → bA = true → ∀ s, fp s = .ok [] := by intro h1 h2; first | (intro _; rfl) | cases h2 | cases h1) (hbase : attributeBase eo "append" X.env (eval eo X.env) = eval eo X.env := by rfl)
    (hfew : ((backTo cpos (starEach (ea :: es) X.env)).all (fun x => !x.1) && (backToKw cpos (keywordEach [] X.env)).all (fun x => x.1.isSome) && decide ((ea :: es).length + ([] : List Keyword).length + (if ([] : List Keyword).isEmpty then 0 else 1) < 30)) = true := by rfl)
    (hline : (apos.endLine == cpos.line) = true := by rfl) (hs : starEach (ea :: es) X.env = (false, eval ea X.env) :: starEach es X.env := by rfl) (hplain : (backTo cpos (starEach es X.env)).any (·.1) = false := by rfl) :
    SE Y X true (mutE i bad (mutG .append) fp gA) (.Call (.Attribute eo "append" apos) (ea :: es) [] cpos) := se_mut c.hK PySem.F.plainAttrs_list PySem.F.slot_list_append PySem.F.type_list_append mtr_append ho ha hp hbase hfew hline hs hplain
theorem m_extend (c : Cc k X Y) (bad : Bool) (ho : SP Y X i fp eo) (ha : SA Y X bA gA (ea :: es)) (hp : bad = false → bA = true → ∀ s, fp s = .ok [] := by intro h1 h2; first | (intro _; rfl) | cases h2 | cases h1) (hbase : attributeBase eo "extend" X.env (eval eo X.env) = eval eo X.env := by rfl)
    (hfew : ((backTo cpos (starEach (ea :: es) X.env)).all (fun x => !x.1) && (backToKw cpos (keywordEach [] X.env)).all (fun x => x.1.isSome) && decide ((ea :: es).length + ([] : List Keyword).length + (if ([] : List Keyword).isEmpty then 0 else 1) < 30)) = true := by rfl)
    (hline : (apos.endLine == cpos.line) = true := by rfl) (hs : starEach (ea :: es) X.env = (false, eval ea X.env) :: starEach es X.env := by rfl) (hplain : (backTo cpos (starEach es X.env)).any (·.1) = false := by rfl) :
    SE Y X true (mutE i bad (mutG .extend) fp gA) (.Call (.Attribute eo "extend" apos) (ea :: es) [] cpos) := se_mut c.hK PySem.F.plainAttrs_list PySem.F.slot_list_extend PySem.F.type_list_extend mtr_extend ho ha hp hbase hfew hline hs hplain
theorem m_insert (c : Cc k X Y) (bad : Bool) (ho : SP Y X i fp eo) (ha : SA Y X bA gA (ea :: es)) (hp : bad = false → bA = true → ∀ s, fp s = .ok [] := by intro h1 h2; first | (intro _; rfl) | cases h2 | cases h1) (hbase : attributeBase eo "insert" X.env (eval eo X.env) = eval eo X.env := by rfl)
    (hfew : ((backTo cpos (starEach (ea :: es) X.env)).all (fun x => !x.1) && (backToKw cpos (keywordEach [] X.env)).all (fun x => x.1.isSome) && decide ((ea :: es).length + ([] : List Keyword).length + (if ([] : List Keyword).isEmpty then 0 else 1) < 30)) = true := by rfl)
    (hline : (apos.endLine == cpos.line) = true := by rfl) (hs : starEach (ea :: es) X.env = (false, eval ea X.env) :: starEach es X.env := by rfl) (hplain : (backTo cpos (starEach es X.env)).any (·.1) = false := by rfl) :
    SE Y X true (mutE i bad (mutG .insert) fp gA) (.Call (.Attribute eo "insert" apos) (ea :: es) [] cpos) := se_mut c.hK PySem.F.plainAttrs_list PySem.F.slot_list_insert PySem.F.type_list_insert mtr_insert ho ha hp hbase hfew hline hs hplain
theorem m_remove (c : Cc k X Y) (bad : Bool) (ho : SP Y X i fp eo) (ha : SA Y X bA gA (ea :: es)) (hp : bad = false → bA = true → ∀ s, fp s = .ok [] := by intro h1 h2; first | (intro _; rfl) | cases h2 | cases h1) (hbase : attributeBase eo "remove" X.env (eval eo X.env) = eval eo X.env := by rfl)
    (hfew : ((backTo cpos (starEach (ea :: es) X.env)).all (fun x => !x.1) && (backToKw cpos (keywordEach [] X.env)).all (fun x => x.1.isSome) && decide ((ea :: es).length + ([] : List Keyword).length + (if ([] : List Keyword).isEmpty then 0 else 1) < 30)) = true := by rfl)
    (hline : (apos.endLine == cpos.line) = true := by rfl) (hs : starEach (ea :: es) X.env = (false, eval ea X.env) :: starEach es X.env := by rfl) (hplain : (backTo cpos (starEach es X.env)).any (·.1) = false := by rfl) :
    SE Y X true (mutE i bad (mutG .remove) fp gA) (.Call (.Attribute eo "remove" apos) (ea :: es) [] cpos) := se_mut c.hK PySem.F.plainAttrs_list PySem.F.slot_list_remove PySem.F.type_list_remove mtr_remove ho ha hp hbase hfew hline hs hplain
theorem m_pop (c : Cc k X Y) (bad : Bool) (ho : SP Y X i fp eo) (ha : SA Y X bA gA (ea :: es)) (hp : bad = false → bA = true → ∀ s, fp s = .ok [] := by intro h1 h2; first | (intro _; rfl) | cases h2 | cases h1) (hbase : attributeBase eo "pop" X.env (eval eo X.env) = eval eo X.env := by rfl)
    (hfew : ((backTo cpos (starEach (ea :: es) X.env)).all (fun x => !x.1) && (backToKw cpos (keywordEach [] X.env)).all (fun x => x.1.isSome) && decide ((ea :: es).length + ([] : List Keyword).length + (if ([] : List Keyword).isEmpty then 0 else 1) < 30)) = true := by rfl)
    (hline : (apos.endLine == cpos.line) = true := by rfl) (hs : starEach (ea :: es) X.env = (false, eval ea X.env) :: starEach es X.env := by rfl) (hplain : (backTo cpos (starEach es X.env)).any (·.1) = false := by rfl) :
    SE Y X true (mutE i bad (mutG .pop) fp gA) (.Call (.Attribute eo "pop" apos) (ea :: es) [] cpos) := se_mut c.hK PySem.F.plainAttrs_list PySem.F.slot_list_pop PySem.F.type_list_pop mtr_pop ho ha hp hbase hfew hline hs hplain
theorem m_pop0 (c : Cc k X Y) (bad : Bool) (ho : SP Y X i fp eo) (hbase : attributeBase eo "pop" X.env (eval eo X.env) = eval eo X.env := by rfl) (hline : (apos.endLine == cpos.line) = true := by rfl) :
    SE Y X true (mutE i bad (mutG .pop) fp (fun s => .ok ([], s))) (.Call (.Attribute eo "pop" apos) [] [] cpos) := se_mut0 c.hK PySem.F.plainAttrs_list PySem.F.slot_list_pop PySem.F.type_list_pop mtr_pop ho hbase hline
theorem e_tup {kk} (h : SA Y X b gA es) : SE Y X b (tupE gA) (.Tuple es kk pos) := se_tup h
theorem e_lst (h : SA Y X b gA es) : SE Y X b (lstE gA) (.List es pos) := se_lst h

/-! ### more -/
theorem e_rd (ho : SP Y X i fp eo) : SE Y X false (rdE i fp) eo := se_rd ho
theorem e_frz (h : SE Y X b fa ea) : SE Y X b (frzE fa) ea := se_frz h
theorem e_neg (h : SE Y X b fa ea) : SE Y X b (negE fa) (.UnaryOp .USub ea pos) := se_neg h
theorem e_not (h : SE Y X b fa ea) : SE Y X b (notE fa) (.UnaryOp .Not ea pos) := se_not h
theorem e_one {op} (h : SE Y X b fa ea) : SE Y X b fa (.BoolOp op [ea] pos) := se_one h
theorem t_chain {bd : Bool} {o1 o2 : CmpOp} (h1 : OpR X (compareOp o1) (Op2 Y.K (cmpK o1))) (h2 : OpR X (compareOp o2) (Op2 Y.K (cmpK o2))) (ha : SE Y X ba fa ea) (hb : SE Y X bb fb eb) (hc : SE Y X bc fc ec) (hm : lastMarks [o1, o2] [eb, ec] = false := by rfl) (hd : (bb || bc) = bd := by rfl) (hf : (ba || bd) = b := by rfl) :
    ST Y X b (fun s => tstR (chainE o1 o2 bd fa fb fc s)) (.Compare ea [o1, o2] [eb, ec] pos) := by
  subst hd
  exact hf ▸ st_chain h1 h2 ha hb hc hm
theorem e_chain {bd : Bool} {o1 o2 : CmpOp} (h1 : OpR X (compareOp o1) (Op2 Y.K (cmpK o1))) (h2 : OpR X (compareOp o2) (Op2 Y.K (cmpK o2))) (ha : SE Y X ba fa ea) (hb : SE Y X bb fb eb) (hc : SE Y X bc fc ec) (hm : lastMarks [o1, o2] [eb, ec] = false := by rfl) (hd : (bb || bc) = bd := by rfl) (hf : (ba || bd) = b := by rfl) :
    SE Y X b (chainE o1 o2 bd fa fb fc) (.Compare ea [o1, o2] [eb, ec] pos) := by
  subst hd
  exact hf ▸ se_chain h1 h2 ha hb hc hm
theorem i_enum (c : Cc k X Y) {p tpos : Pos} {elts : List Expr} {kk : Nat} (hm : X.mg "enumerate" = none) (h : SA Y X b gA [ea]) (hg : Gl X "enumerate" := by rfl) (hs : starEach [ea] X.env = [(false, eval ea X.env)] := by rfl) : SI Y X b (itE gA) (.Tuple elts kk tpos) (.Call (.Name "enumerate" p) [ea] [] pos) := si_enum c.hK hg hm h hs
theorem i_zip (c : Cc k X Y) {p tpos : Pos} {elts : List Expr} {kk : Nat} (hm : X.mg "zip" = none) (h : SA Y X b gA [ea, eb]) (hg : Gl X "zip" := by rfl) (hs : starEach [ea, eb] X.env = (false, eval ea X.env) :: starEach [eb] X.env := by rfl) (hpl : (backTo pos (starEach [eb] X.env)).any (·.1) = false := by rfl) : SI Y X b (itZ gA) (.Tuple elts kk tpos) (.Call (.Name "zip" p) [ea, eb] [] pos) := si_zip c.hK hg hm h hs hpl
/-- several names at once -/
def parS (is : List Nat) (fA : LS → Res (List LV × LS)) : LS → SR := fun s => (fA s).toS fun p => if nlAll p.1 then match parL is p.1 p.2.sl with
      | some sl' => .nxt ⟨sl', p.2.ob⟩
      | none => .stuck
    else .stuck
theorem s_par (c : Cc k X Y) (i j : Nat) {x y : Str} {ex ey : Expr} {px py pt : Pos} {kt k2 pt2} (ha : SA Y X b gA [ex, ey]) (hi : X.N[i]? = some x := by rfl) (hj : X.N[j]? = some y := by rfl) (hij : i ≠ j := by decide)
    (hx : X.env.scope.names.lookup x = some .local := by rfl) (hy : X.env.scope.names.lookup y = some .local := by rfl) (hio : i ∉ io := by decide) (hjo : j ∉ io := by decide)
    (hw : swappedStores [.Tuple [.Name x px, .Name y py] kt pt] (.Tuple [ex, ey] k2 pt2) X.env = pure (some [x, y]) := by rfl) (hs : swapsWithSole [.Tuple [.Name x px, .Name y py] kt pt] (.Tuple [ex, ey] k2 pt2) pos.line X.env = pure false := by rfl) :
    SS Y X io (parS [i, j] gA) (.Assign [.Tuple [.Name x px, .Name y py] kt pt] (.Tuple [ex, ey] k2 pt2) pos) := ss_par c.calm c.nd hi hj hij hx hy hio hjo ha hw hs
theorem s_par3 (c : Cc k X Y) (i j l : Nat) {x y z : Str} {ex ey ez : Expr} {px py pz pt : Pos} {kt k2 pt2} (ha : SA Y X b gA [ex, ey, ez]) (hi : X.N[i]? = some x := by rfl) (hj : X.N[j]? = some y := by rfl) (hl : X.N[l]? = some z := by rfl) (hij : i ≠ j := by decide) (hil : i ≠ l := by decide) (hjl : j ≠ l := by decide)
    (hx : X.env.scope.names.lookup x = some .local := by rfl) (hy : X.env.scope.names.lookup y = some .local := by rfl) (hz : X.env.scope.names.lookup z = some .local := by rfl) (hio : i ∉ io := by decide) (hjo : j ∉ io := by decide) (hlo : l ∉ io := by decide)
    (hw : swappedStores [.Tuple [.Name x px, .Name y py, .Name z pz] kt pt] (.Tuple [ex, ey, ez] k2 pt2) X.env = pure (some [x, y, z]) := by rfl) (hs : swapsWithSole [.Tuple [.Name x px, .Name y py, .Name z pz] kt pt] (.Tuple [ex, ey, ez] k2 pt2) pos.line X.env = pure false := by rfl) :
    SS Y X io (parS [i, j, l] gA) (.Assign [.Tuple [.Name x px, .Name y py, .Name z pz] kt pt] (.Tuple [ex, ey, ez] k2 pt2) pos) := ss_par3 c.calm c.nd hi hj hl hij hil hjl hx hy hz hio hjo hlo ha hw hs
/-- a target of any form -/
def asgS (t : Tg) (fa : EvF) : LS → SR := fun s => (fa s).toS fun p => if p.1.nl then match bindT t p.1 p.2.sl with
      | some sl' => .nxt ⟨sl', p.2.ob⟩
      | none => .stuck
    else .stuck
theorem s_asg {t : Tg} {tg : Expr} (he : SE Y X b fa ea) (hg : PG X tg (tgT Y.K t)) (ht : ∀ i ∈ tgS t, i ∉ io := by decide) (hs : swapsWithSole [tg] ea pos.line X.env = pure false := by rfl) (hw : swappedStores [tg] ea X.env = pure none := by rfl) (h1 : (assignEach [tg] X.env).map (·.2) = [assign tg X.env] := by rfl) :
    SS Y X io (asgS t fa) (.Assign [tg] ea pos) := ss_asg he hg ht hs hw h1
theorem g_nil : PGs X [] (tgL Y.K .nil) := pgs_nil
theorem g_cons {t u : Tg} {e : Expr} {es : List Expr} (h1 : PG X e (tgT Y.K t)) (h2 : PGs X es (tgL Y.K u)) (hs : (assignEach (e :: es) X.env).map (·.2) = assign e X.env :: (assignEach es X.env).map (·.2) := by rfl) : PGs X (e :: es) (tgL Y.K (.cons t u)) := pgs_cons h1 h2 hs
theorem g_tup (c : Cc k X Y) {u : Tg} {es : List Expr} {kk : Nat} (h : PGs X es (tgL Y.K u)) (hn : (assignEach es X.env).length = tgN u := by rfl) (hst : (assignEach es X.env).findIdx? (·.1) = none := by rfl) : PG X (.Tuple es kk pos) (tgT Y.K (.tp u)) := by
  have q := pg_tup (k := kk) (pos := pos) c.calm h hn hst
  rw [c.hK] at q
  exact q
theorem s_setix (c : Cc k X Y) (bad : Bool) {fk : EvF} {ek : Expr} {be : Bool} {p2 : Pos} (he : SE Y X be fa ea) (ho : SP Y X i fp eo) (hk : SE Y X false fk ek) (hs : swapsWithSole [.Subscript eo ek p2] ea pos.line X.env = pure false := by rfl) (hw : swappedStores [.Subscript eo ek p2] ea X.env = pure none := by rfl)
    (ha : ∀ v, assign (.Subscript eo ek p2) X.env v = (do
      let ov ← holding [v] (eval eo X.env)
      let iv ← holding [v, ov] (eval ek X.env)
      standAt p2
      holding [v, ov, iv] (setItem ov iv v)
      release [v, ov, iv] []) := by intro _; rfl)
    (h1 : (assignEach [.Subscript eo ek p2] X.env).map (·.2) = [assign (.Subscript eo ek p2) X.env] := by rfl) : SS Y X io (setS i bad fa fp fk) (.Assign [.Subscript eo ek p2] ea pos) := ss_setix c.hK c.hu he ho hk hs hw ha h1
theorem d_nil : SD Y X pos false [] (fun s => .ok ([], s)) [] [] := sd_nil
theorem d_cons {kx : Str} {ks : List Str} {keys : List (Option Expr)} {vals : List Expr} {j : Nat} {p : Pos} (he : SE Y X ba fa ea) (hr : SD Y X pos bb ks gA keys vals) (hf : (ba || bb) = b := by rfl) : SD Y X pos b (kx :: ks) (consA bb fa gA) (some (.Constant (.str kx) j p) :: keys) (ea :: vals) := hf ▸ sd_cons he hr
theorem e_dk {ks : List Str} {keys : List (Option Expr)} {vals : List Expr} (h : SD Y X pos b ks gA keys vals) (hall : keys.all (·.isSome) = true := by rfl) (hl : keys.length = vals.length := by rfl) (h0 : keys ≠ [] := by intro z; cases z) (h15 : keys.length ≤ 15 := by decide) : SE Y X b (dkE ks gA) (.Dict keys vals pos) := se_dk h hall hl h0 h15
theorem s_pass : SS Y X io (fun s => .nxt s) (.Pass pos) := ss_pass
theorem s_brk : SS Y X io (fun s => .brk s) (.Break pos) := ss_brk
theorem s_cnt : SS Y X io (fun s => .cnt s) (.Continue pos) := ss_cnt
theorem s_retN : SS Y X io (fun s => .ret (.imm .none) s) (.Return none pos) := ss_retN
end
end MP
/-! MP.30: a part of a dict becomes a shared thing (no text of its own) -/
namespace MP
open PySem PySem.Spec PyProof.Rows L2

def shareS (i : Nat) (k : Key) : LS → SR := fun s => match s.sl[i]? with
  | some (some (.dic ks)) => match lookK ks k with
    | some x => if x.giv then .nxt ⟨s.sl.set i (some (.dic (setK ks k (.ref s.ob.length)))), s.ob ++ [x]⟩ else .stuck
    | none => .stuck
  | _ => .stuck
theorem Rps.snoc {K : PySem.W.Frag} {H : Hp} {m : List Addr} {F : Addr → Prop} {us : List V} {xs : List LV} {O P : List Addr} {v : V} {x : LV} (r : Rps K H m F us xs O) (q : Rp K H m F v x P) : Rps K H m F (us ++ [v]) (xs ++ [x]) (O ++ P) := by
  have := r.app (Rps.cons q .nil)
  rwa [List.append_nil] at this
theorem share_key {K : PySem.W.Frag} {H : Hp} {m : List Addr} {F : Addr → Prop} {n : Nat} : ∀ {ks : List (Key × LV)} {vs : List (Key × V)} {O : List Addr} {k : Key} {x : LV}, Rpk K H m F vs ks O → lookK ks k = some x → x.giv = true →
    ∃ a Oc Or, Rp K H m F (.ref a) x Oc ∧ O.Perm (Oc ++ Or) ∧ ∀ m' : List Addr, (∀ (l : Nat) (a : Addr), m[l]? = some a → m'[l]? = some a) → m'[n]? = some a → Rpk K H m' F vs (setK ks k (.ref n)) Or
  | [], _, _, _, _, .nil, e, _ => by simp [lookK] at e
  | (k', y) :: ks, _, _, k, x, @Rpk.cons _ _ _ _ _ v vs _ _ O P r t, e, g => by
    unfold lookK at e
    by_cases hk : k' = k
    · rw [if_pos hk] at e
      cases e
      obtain ⟨a, rfl⟩ : ∃ a, v = .ref a := by
        cases r with
        | lst _ _ => exact ⟨_, rfl⟩
        | dic _ _ => exact ⟨_, rfl⟩
        | _ => simp [LV.giv] at g
      refine ⟨a, O, P, r, List.Perm.refl _, fun m' hm hn => ?_⟩
      unfold setK
      rw [if_pos hk]
      exact Rpk.cons (O := []) (.ref hn) (t.pres (W := []) Pres.refl (fun b z => nomatch z) hm (fun a f _ => f) (fun _ _ _ z => nomatch z) (fun _ _ z => nomatch z) (.inl rfl))
    · rw [if_neg hk] at e
      obtain ⟨a, Oc, Or, h1, h2, h3⟩ := share_key t e g
      refine ⟨a, Oc, O ++ Or, h1, (List.Perm.append_left O h2).trans pmid, fun m' hm hn => ?_⟩
      unfold setK
      rw [if_neg hk]
      exact .cons (r.pres (W := []) Pres.refl (fun b z => nomatch z) hm (fun a f _ => f) (fun _ _ _ z => nomatch z) (fun _ _ z => nomatch z) (.inl rfl)) (h3 m' hm hn)
theorem share_conv {Y : Yx} {io : List Nat} {i : Nat} {k : Key} {ga : LS → SR} {D : Ends} {vs : L2.St} {H : Hp} (h : tS Y io (fun s => (shareS i k s).bind ga) D vs H) : tS Y io ga D vs H := by
  obtain ⟨s, R, m, A, B, l, n, h⟩ := h
  replace h : PostS Y H R vs A B io ((shareS i k s).bind ga) D := h
  unfold shareS at h
  split at h
  · rename_i ks hx
    split at h
    · rename_i x ex
      by_cases g : x.giv = true
      case neg => rw [if_neg g] at h; exact h.elim
      rw [if_pos g] at h
      replace h : PostS Y H R vs A B io (ga ⟨s.sl.set i (some (.dic (setK ks k (.ref s.ob.length)))), s.ob ++ [x]⟩) D := h
      obtain ⟨v, O, A', ev, rv, rs, pm⟩ := l.sl.out hx
      have hi : i < s.sl.length := (List.getElem?_eq_some_iff.mp hx).1
      simp only [nlL, Bool.and_eq_true] at n
      have nx := nlS_at n.1 hx
      cases rv with
      | @dic a us _ O1 hA rk =>
        have hlen : m.length = s.ob.length := by
          have := l.ob.length
          simpa using this
        obtain ⟨p, Oc, Or, rx, pm2, mk⟩ := share_key (n := s.ob.length) rk ex g
        have hm : ∀ (l : Nat) (a : Addr), m[l]? = some a → (m ++ [p])[l]? = some a := fun l a e => by rw [List.getElem?_append_left ((List.getElem?_eq_some_iff.mp e).1)]; exact e
        have hn : (m ++ [p])[s.ob.length]? = some p := by rw [← hlen]; simp
        have rk' := mk (m ++ [p]) hm hn
        have upS : RpS Y.K H (m ++ [p]) (Fz R (A ++ B)) vs (s.sl.set i none) A' := rs.pres (W := []) Pres.refl (fun b z => nomatch z) hm (fun a f _ => f) (fun _ _ _ z => nomatch z) (fun _ _ z => nomatch z) (.inl rfl)
        have upO : Rps Y.K H (m ++ [p]) (Fz R (A ++ B)) (m.map V.ref) s.ob B := l.ob.pres (W := []) Pres.refl (fun b z => nomatch z) hm (fun a f _ => f) (fun _ _ _ z => nomatch z) (fun _ _ z => nomatch z) (.inl rfl)
        have upX : Rp Y.K H (m ++ [p]) (Fz R (A ++ B)) (.ref p) x Oc := rx.pres (W := []) Pres.refl (fun b z => nomatch z) hm (fun a f _ => f) (fun _ _ _ z => nomatch z) (fun _ _ z => nomatch z) (.inl rfl)
        obtain ⟨A2, q1, q2⟩ := upS.put (i := i) (v := .ref a) (by rw [List.getElem?_set_self hi]) ev (.dic hA rk')
        rw [List.set_set] at q1
        have ob2 : Rps Y.K H (m ++ [p]) (Fz R (A ++ B)) ((m ++ [p]).map V.ref) (s.ob ++ [x]) (B ++ Oc) := by
          rw [List.map_append]
          exact upO.snoc upX
        have all : (A2 ++ (B ++ Oc)).Perm (A ++ B) := by
          have h1 : (A2 ++ (B ++ Oc)).Perm ((a :: Or) ++ A' ++ (B ++ Oc)) := List.Perm.append_right _ q2
          have h2 : (A ++ B).Perm ((a :: O1) ++ A' ++ B) := List.Perm.append_right B pm
          have h3 : ((a :: O1) ++ A' ++ B).Perm ((a :: (Oc ++ Or)) ++ A' ++ B) := List.Perm.append_right B (List.Perm.append_right A' (List.Perm.cons a pm2))
          have h4 : ((a :: Or) ++ A' ++ (B ++ Oc)).Perm (Oc ++ ((a :: Or) ++ A' ++ B)) := by
            rw [← List.append_assoc ((a :: Or) ++ A') B Oc]
            exact List.perm_append_comm
          have h5 : ((a :: (Oc ++ Or)) ++ A' ++ B).Perm (Oc ++ ((a :: Or) ++ A' ++ B)) := by
            have : (a :: (Oc ++ Or)).Perm (Oc ++ (a :: Or)) := List.perm_middle.symm
            have := List.Perm.append_right B (List.Perm.append_right A' this)
            simpa [List.append_assoc] using this
          exact (h1.trans h4).trans ((h2.trans (h3.trans h5)).symm)
        have Fq : ∀ c, Fz R (A ++ B) c → Fz R (A2 ++ (B ++ Oc)) c := fun c f => ⟨fun w => f.1 (all.mem_iff.mp w), f.2⟩
        have l2 : LI Y.K H R vs ⟨s.sl.set i (some (.dic (setK ks k (.ref s.ob.length)))), s.ob ++ [x]⟩ (m ++ [p]) A2 (B ++ Oc) :=
          ⟨q1.pres (W := []) Pres.refl (fun b z => nomatch z) (fun _ _ e => e) (fun a f _ => Fq a f) (fun _ _ _ z => nomatch z) (fun _ _ z => nomatch z) (.inl rfl), ob2.fz' Fq, all.nodup_iff.mpr l.nd, fun c z => l.nr c (all.mem_iff.mp z), l.rs⟩
        have nn : nlL ⟨s.sl.set i (some (.dic (setK ks k (.ref s.ob.length)))), s.ob ++ [x]⟩ = true := by
          simp only [nlL, Bool.and_eq_true]
          refine ⟨nlS_set n.1 i _ fun y e => ?_, nls_app n.2 ?_⟩
          · cases e
            simpa [LV.nl] using nlk_set (by simpa [LV.nl] using nx) (show (LV.ref s.ob.length).nl = true from rfl)
          · have := nlk_look (by simpa [LV.nl] using nx) ex
            simp [LV.nls, this]
        refine ⟨_, R, m ++ [p], A2, B ++ Oc, l2, nn, ?_⟩
        refine PostS.next h (m1 := m ++ [p]) ⟨by rw [Rv_nil]; exact l2, List.nodup_nil, (fun _ z => nomatch z), Pres.refl, fun _ e => e, fun c z => .inl ?_, nn, fun _ _ => rfl⟩
        exact all.mem_iff.mp (z.elim id fun z => nomatch z)
    · exact h.elim
  · exact h.elim
theorem b_share {Y : Yx} {X : Cx} {io : List Nat} (i : Nat) (k : Key) {ga : LS → SR} {sts : List Stmt} (h : SB Y X io ga sts) : SB Y X io (fun s => (shareS i k s).bind ga) sts := PSsw h fun D vs H q => share_conv q
end MP
/-! MP.31: list(range(n)) -/
namespace MP
open PySem PySem.Spec PyProof.Rows L2

def rgOk (a b : Int) : Bool := decide (-(2 ^ 62) ≤ a ∧ a < 2 ^ 62 ∧ -(2 ^ 62) ≤ b ∧ b < 2 ^ 62 ∧ (b - a).toNat ≤ 2 ^ 24)
theorem rgOk_iff {a b : Int} (h : rgOk a b = true) : RgOk a b := by
  have q : -(2 ^ 62) ≤ a ∧ a < 2 ^ 62 ∧ -(2 ^ 62) ≤ b ∧ b < 2 ^ 62 ∧ (b - a).toNat ≤ 2 ^ 24 := of_decide_eq_true h
  exact q
def lrE (fa : EvF) : EvF := fun s => (fa s).bind fun p => match p.1 with
  | .imm (.int j) => if rgOk 0 j then .ok (.lst ((rangeD 0 j).map .imm), p.2) else .stuck
  | _ => .stuck
theorem rg_rps {K : PySem.W.Frag} {H : Hp} {m : List Addr} {F : Addr → Prop} (a b : Int) : Rps K H m F (rgV a b) ((rangeD a b).map .imm) [] := by
  unfold rgV rangeD
  induction List.range (b - a).toNat with
  | nil => exact .nil
  | cons i is ih => exact Rps.cons (O := []) (.imm (as := []) (.int _) fun _ z => nomatch z) ih
theorem lr_conv {Y : Yx} {b : Bool} {fa : EvF} {vs : L2.St} {H : Hp} {Q : VK} (h : tG Y b (relV Y) (lrE fa) vs H Q) : tLstRg (tRg1 (tG Y b (relV Y) fa)) vs H Q := by
  obtain ⟨s, R, m, A, B, l, n, h⟩ := h
  refine ⟨s, R, m, A, B, l, n, h.split id fun p hp h1 y H1 m1 A1 B1 P x1 r1 => ?_⟩
  obtain ⟨x, s1⟩ := p
  simp only at r1 h1 x1
  split at h1
  · rename_i j
    by_cases hj : rgOk 0 j = true
    · rw [if_pos hj] at h1
      cases r1 with
      | imm r f =>
        cases r
        refine ⟨j, rfl, (rgOk_iff hj), fun q hq => ?_⟩
        refine h1 (.ref q) _ m1 A1 B1 [q] (x1.res (Pres.new hq) (fun a z => ?_) (List.nodup_cons.mpr ⟨List.not_mem_nil, List.nodup_nil⟩)) (.lst upd_same (rg_rps 0 j))
        rw [List.mem_singleton.mp z]
        exact ⟨.inr hq, by rw [upd_same]; exact fun z => nomatch z⟩
    · rw [if_neg hj] at h1; exact h1.elim
  · exact h1.elim
theorem e_lr {k : Nat} {X : Cx} {Y : Yx} {b : Bool} {fa : EvF} {ea : Expr} {p p2 pos pos2 : Pos} (c : Cc k X Y) (h1 : X.mg "list" = none) (h2 : X.mg "range" = none) (ha : SE Y X b fa ea) (g1 : Gl X "list" := by rfl) (g2 : Gl X "range" := by rfl) (na : starEach [ea] X.env = (false, eval ea X.env) :: starEach [] X.env := by rfl)
    (nb : starEach [.Call (.Name "range" p2) [ea] [] pos2] X.env = (false, eval (.Call (.Name "range" p2) [ea] [] pos2) X.env) :: starEach [] X.env := by rfl) : SE Y X b (lrE fa) (.Call (.Name "list" p) [.Call (.Name "range" p2) [ea] [] pos2] [] pos) :=
  PEw (pe_listRg c.calm g1 h1 (prg_1 g2 h2 ha na) nb) fun vs H Q h => lr_conv h
end MP
/-! MP.32: constants by name; name = [..] on one line; calls with keywords only -/
namespace MP
open PySem PySem.Spec PyProof.Rows L2

def cE (d : PyData) : EvF := fun s => .ok (.imm d, s)
def tyE : LS → Res (Bool × LS) := fun s => .ok (true, s)
def nilC : LS → Res (List AV × LS) := fun s => .ok ([], s)
def noO : LS → Res (Option Int × LS) := fun s => .ok (none, s)
def nilP : LS → Res (List PyData) := fun _ => .ok []
def nxtS : LS → SR := fun s => .nxt s
def brkS : LS → SR := fun s => .brk s
def cntS : LS → SR := fun s => .cnt s
def retNS : LS → SR := fun s => .ret (.imm .none) s
def retS (fa : EvF) : LS → SR := fun s => (fa s).toS fun p => .ret p.1 p.2
def exS (fa : EvF) : LS → SR := fun s => (fa s).toS fun p => .nxt p.2
def tstE (fa : EvF) : LS → Res (Bool × LS) := fun s => tstR (fa s)
def ifS (ft : LS → Res (Bool × LS)) (ga gb : LS → SR) : LS → SR := fun s => (ft s).toS fun p => if p.1 then ga p.2 else gb p.2
def forS (f : ItF) (t : Tg) (ga : LS → SR) : LS → SR := fun s => (f s).toS fun p => if p.1.2 then .stuck else forL t ga p.1.1 p.2
def whlS (ft : LS → Res (Bool × LS)) (ga : LS → SR) : LS → SR := fun s => whlL ft ga fuel s
def seqS (ga gb : LS → SR) : LS → SR := fun s => (ga s).bind gb
section
variable {k : Nat} {X : Cx} {Y : Yx} {b ba bb bt bl be bi : Bool} {fa fb : EvF} {ea eb : Expr} {es : List Expr} {gA : LS → Res (List LV × LS)} {ga gb : LS → SR} {io : List Nat} {pos : Pos}
theorem k_int {kk pos} {i : Int} : SE Y X false (cE (.int i)) (.Constant (.int i) kk pos) := se_int
theorem k_str {kk pos} {x : Str} : SE Y X false (cE (.str x)) (.Constant (.str x) kk pos) := se_str
theorem k_bool {kk pos} {x : Bool} : SE Y X false (cE (.bool x)) (.Constant (.bool x) kk pos) := se_bool
theorem k_none {kk pos} : SE Y X false (cE .none) (.Constant .none kk pos) := se_none
theorem an : SA Y X false nilA [] := sa_nil
theorem acn : SC Y X false [] nilC [] := sc_nil
theorem dn : SD Y X pos false [] nilA [] [] := sd_nil
theorem on : SO Y X false noO none := so_none
theorem ln {X : Cx} {Y : Yx} : PTs X [] (tG Y false relB tyE) := pts_none
theorem lo {X : Cx} {Y : Yx} {b : Bool} {e : Expr} {fa : EvF} (h : ST Y X b (tstE fa) e) : PTs X [e] (tG Y b relB (tstE fa)) := pts_one h
theorem pn (i : Nat) {x : Str} (hN : X.N[i]? = some x := by rfl) (hv : Vis X.env.scope x := by first | exact Or.inl rfl | exact Or.inr (Or.inl rfl) | exact Or.inr (Or.inr rfl)) (hd : (x == ("__debug__" : Str)) = false := by decide) (hcd : (x == ("__classdict__" : Str)) = false := by decide) : SP Y X i nilP (.Name x pos) := sp_name hN hv hd hcd
theorem z_seq {st : Stmt} {rest : List Stmt} (h1 : SS Y X io ga st) (h2 : SB Y X io gb rest) : SB Y X io (seqS ga gb) (st :: rest) := sb_cons h1 h2
theorem z_nil : SB Y X io nxtS [] := sb_nil
theorem z_one {st : Stmt} (h1 : SS Y X io ga st) : SB Y X io ga [st] := sb_one h1
theorem z_ret (h : SE Y X b fa ea) : SS Y X io (retS fa) (.Return (some ea) pos) := ss_retE h
theorem z_ex (h : SE Y X b fa ea) (hs : swapsWith ea none pos.line X.env = pure false := by rfl) : SS Y X io (exS fa) (.Expr ea pos) := ss_expr h hs
theorem z_if {ec : Expr} {p q : List Stmt} (hc : ST Y X b (tstE fa) ec) (ha : SB Y X io ga p) (hb : SB Y X io gb q) : SS Y X io (ifS (tstE fa) ga gb) (.If ec p q pos) := ss_if hc ha hb
theorem z_for (c : Cc k X Y) (hp : PassesOwn (model X.prog X.w) X.A X.env X.xe) {f : ItF} {t : Tg} {tg iter : Expr} {body : List Stmt} (hi : SI Y X b f tg iter) (hg : PG X tg (tgT Y.K t)) (hb : SB Y X io ga body) (ht : ∀ i ∈ tgS t, i ∉ io := by decide)
    (hs : ∀ x, foldedSetIterable iter X.env x = pure x := by intro _; rfl) : SS Y X io (forS f t ga) (.For tg iter body [] pos) := ss_for hp c.calm hi hg ht hb hs
theorem z_whl (hp : PassesOwn (model X.prog X.w) X.A X.env X.xe) {ec : Expr} {body : List Stmt} (hc : ST Y X b (tstE fa) ec) (hb : SB Y X io ga body) : SS Y X io (whlS (tstE fa) ga) (.While ec body [] pos) := ss_whl hp hc hb
theorem z_pass : SS Y X io nxtS (.Pass pos) := ss_pass
theorem z_brk : SS Y X io brkS (.Break pos) := ss_brk
theorem z_cnt : SS Y X io cntS (.Continue pos) := ss_cnt
theorem z_retN : SS Y X io retNS (.Return none pos) := ss_retN
theorem z_share (i : Nat) (kk : Key) {sts : List Stmt} (h : SB Y X io ga sts) : SB Y X io (seqS (shareS i kk) ga) sts := b_share i kk h
/-- name = [.. for .. in ..] on one line -/
theorem z_lc (c : Cc k X Y) (i : Nat) (ow : List (Str × Nat)) (own : List Nat) {y : Str} {py : Pos} {elt tg iter : Expr} {ifs : List Expr} {scope : Scope} {p2 : Pos} {fi : ItF} {t : Tg} {ft : LS → Res (Bool × LS)} {fe : EvF} (hi : SI Y X bi fi tg iter)
    (hg : ∀ (s : Shared) (H : Hp) (C : Addr) (cl : List (Str × Addr)) (fp : List Addr), Cc k (Blk X scope s H C cl fp) Y.b → PG (Blk X scope s H C cl fp) tg (tgT Y.K t))
    (htt : ∀ (s : Shared) (H : Hp) (C : Addr) (cl : List (Str × Addr)) (fp : List Addr), Cc k (Blk X scope s H C cl fp) Y.b → PTs (Blk X scope s H C cl fp) ifs (tG Y.b bt relB ft))
    (he : ∀ (s : Shared) (H : Hp) (C : Addr) (cl : List (Str × Addr)) (fp : List Addr), Cc k (Blk X scope s H C cl fp) Y.b → SE Y.b (Blk X scope s H C cl fp) bl fe elt)
    (ok : BlkOk X.N X.env.scope scope ow := by exact blkOk_by (by rfl)) (ho : ow.map (·.2) = own := by rfl) (ht : ∀ i ∈ tgS t, i ∈ own := by decide) (hs : ∀ x, foldedSetIterable iter X.env x = pure x := by intro _; rfl)
    (hbe : (bt || bl) = be := by rfl) (hy : X.N[i]? = some y := by rfl) (hyl : X.env.scope.names.lookup y = some .local := by rfl) (hio : i ∉ io := by decide)
    (hsw : swapsWith (.ListComp elt [⟨tg, iter, ifs, 0⟩] scope p2) (some (.Name y py)) pos.line X.env = pure true := by rfl) :
    SS Y X io (setS1 i (lcE own be t fi ft fe)) (.Assign [.Name y py] (.ListComp elt [⟨tg, iter, ifs, 0⟩] scope p2) pos) :=
  PSw (ps_setLc (own := ow) c.calm c.nd hy hyl hsw hi ok (fun s H C cl fp => hg s H C cl fp (c.blk ..)) (fun s H C cl fp => htt s H C cl fp (c.blk ..)) (fun s H C cl fp => he s H C cl fp (c.blk ..)) hs) fun D vs H h => by
    have q := asg_conv (b := bi || be) (t := .nm i) (fun j hj => by simp [tgS] at hj; subst hj; exact hio) h
    rw [ho]
    unfold tgT at q
    exact lc_conv ht (fun e => by rw [← hbe, e]; rfl) (fun e => by rw [← hbe, e]; cases bt <;> rfl) q

/-! ### keywords only -/
abbrev SK (Y : Yx) (X : Cx) (b : Bool) (sh : List (Option Nat)) (f : LS → Res (List AV × LS)) (kws : List Keyword) : Prop := PK X kws (tA Y b sh f)
theorem PKw {kws : List Keyword} {t t' : TA} (h : PK X kws t) (w : ∀ σ H Q, t' σ H Q → t σ H Q) : PK X kws t' := ⟨fun pos pins s σ H Q I q => h.run pos pins s σ H Q I (w σ H Q q)⟩
theorem kn : SK Y X false [] nilC [] := PKw pk_nil fun vs H Q h => by
  obtain ⟨s, R, m, A, B, l, n, h⟩ := h
  exact h [] H m A B [] (Stp.refl l) ⟨.nil, rfl, fun _ => rfl⟩
theorem kc {sh : List (Option Nat)} {gC : LS → Res (List AV × LS)} {nm : Option Str} {kpos : Pos} {kws : List Keyword} (ha : SE Y X ba fa ea) (hb : SK Y X bb sh gC kws) (hf : (ba || bb) = b := by rfl) : SK Y X b (none :: sh) (consC bb fa gC) (⟨nm, ea, kpos⟩ :: kws) := by
  subst hf
  exact PKw (pk_cons ha hb) fun vs H Q h => scc_conv h
/-- how a def binds keywords that name all parameters in their order -/
structure CalK (k : Nat) (X : Cx) (Y : Yx) (x : Str) (ks : List Str) (cf : CF) (g np : Nat) (io : List Nat) : Prop where
  ex : ∃ (f : Addr) (fd : FuncData), FnG X.prog X.w X.K X.mg X.base k f fd ks (spF Y.K Y.XR cf g np io) ∧ X.mg x = some (.ref f) ∧ PySem.W.keepIn X.K (.ref f) = true ∧ ∀ (s : Shared) (ws : List Value), X.K.In s.heap → ws.length = ks.length → BindsTo s fd ⟨[], ks.zip ws⟩ (ks.zip ws)
theorem CalK.blk {x : Str} {ks : List Str} {cf : CF} {g np : Nat} {io : List Nat} (F : CalK k X Y x ks cf g np io) (s : Shared) (H : Hp) (scope : Scope) (cenv : Env) (fp : List Addr) : CalK k (X.blk s H scope cenv fp) Y.b x ks cf g np io := ⟨F.ex⟩
theorem e_callK {sh : List (Option Nat)} {gC : LS → Res (List AV × LS)} {x : Str} {ks : List Str} {p : Pos} {cf : CF} {g np : Nat} {io : List Nat} {kws : List Keyword} (c : Cc k X Y) (F : CalK k X Y x ks cf g np io) (ha : SK Y X b sh gC kws) (hio : ioOf 0 sh = io := by rfl) (hnp : sh.length = np := by rfl) (hg : Gl X x := by rfl) (hdb : (x == ("__debug__" : Str)) = false := by decide)
    (hall : (backToKw pos (keywordEach kws X.env)).all (·.1.isSome) = true := by rfl) (hks : (backToKw pos (keywordEach kws X.env)).filterMap (·.1) = ks := by rfl) (hpl : ((backTo pos (starEach [] X.env)).any (·.1) || (backToKw pos (keywordEach kws X.env)).any (·.1.isNone)) = false := by rfl) :
    SE Y X b (callEE cf g gC) (.Call (.Name x p) [] kws pos) := by
  obtain ⟨f, fd, h1, h2, h3, h4⟩ := F.ex
  refine ⟨fun pins s σ H Q I h => ?_⟩
  refine wpAny_Call_Name_kw (ld_glob I hg h2 ?_ hdb)
  refine PySem.W.callWith_KW0 (h₀ := X.base) I.ok.mod.kin h3 hall (thn (ha.run pos pins s σ H _ I (call_conv hio hnp h)) fun us s1 ⟨vs, H1, I1, r, q⟩ => ⟨I1.kIn, ?_⟩) hpl
  rw [hks]
  have hl : us.length = ks.length := by rw [← r.length]; exact h1.len _ _ _ _ q
  refine wpAny_call (codeAny_mono (run_fnG h1 c.room c.gd c.tk I1 (h4 s1 us I1.kIn hl) r q) fun r s' hq => ?_)
  cases r with
  | error e => exact hq
  | ok fl => cases fl <;> exact hq
end
end MP
/-! MP.33: what the combinators lead to, one rule each -/
namespace MP
open PySem PySem.Spec PyProof.Rows L2

section
variable {s s1 s2 s3 : LS} {fa fb fc : EvF} {gA gB : LS → Res (List LV × LS)} {gC : LS → Res (List AV × LS)} {fp : LS → Res (List PyData)} {ft : LS → Res (Bool × LS)} {fi : ItF} {x y z : LV} {xs ys : List LV} {d e : PyData} {ds es : List PyData} {r : RK} {b c : Bool} {i j : Int} {n m : Nat}
theorem ev_c : cE d s = .ok (.imm d, s) := rfl
theorem ev_v {i : Nat} (h : s.sl[i]? = some (some x)) (h2 : readV s.ob x = some y) : varE i s = .ok (y, s) := by simp only [varE, h, h2]
theorem ev_op {g : PyData → PyData → Option RK} {lv : LV → LV → RK → LV} {bb : Bool} (ha : fa s = .ok (x, s1)) (hb : fb s1 = .ok (y, s2)) (hd : x.dat s2.ob = some d) (he : y.dat s2.ob = some e) (hg : g d e = some r) (hz : lv x y r = z) (hn : bb = true → x.nl = true) : op2E g lv bb fa fb s = .ok (z, s2) := by
  have hn : ¬ (bb = true ∧ x.nl = false) := fun q => by rw [hn q.1] at q; exact nomatch q.2
  simp only [op2E, ha, Res.bind, if_neg hn, hb, hd, he, hg, hz]
theorem ev_neg (ha : fa s = .ok (.imm (.int i), s1)) : negE fa s = .ok (.imm (.int (-i)), s1) := by simp only [negE, ha, Res.bind]
theorem ev_bi {g : List PyData → Option RK} (ha : gA s = .ok (xs, s1)) (hd : datsOf s1.ob xs = some ds) (hg : g ds = some r) (hz : r.lv (lhs xs) = z) : biE g gA s = .ok (z, s1) := by
  simp only [biE, ha, Res.bind, hd, hg, hz]
theorem datsOf_nil {ob : List LV} : datsOf ob [] = some [] := rfl
theorem datsOf_cons {ob : List LV} (h : x.dat ob = some d) (t : datsOf ob xs = some ds) : datsOf ob (x :: xs) = some (d :: ds) := by simp only [datsOf, h, t]
theorem ev_tup (ha : gA s = .ok (xs, s1)) (hl : xs.length ≤ sizeLine) (hz : mkTup xs = z) : tupE gA s = .ok (z, s1) := by simp only [tupE, ha, Res.bind, if_pos hl, hz]
theorem ev_lst (ha : gA s = .ok (xs, s1)) (hl : xs.length ≤ sizeLine) : lstE gA s = .ok (.lst xs, s1) := by simp only [lstE, ha, Res.bind, if_pos hl]
theorem ev_nilA : nilA s = .ok ([], s) := rfl
theorem ev_consA {bb : Bool} (ha : fa s = .ok (x, s1)) (hb : gB s1 = .ok (xs, s2)) (hn : bb = true → x.nl = true) : consA bb fa gB s = .ok (x :: xs, s2) := by
  have hn : ¬ (bb = true ∧ x.nl = false) := fun q => by rw [hn q.1] at q; exact nomatch q.2
  simp only [consA, ha, Res.bind, if_neg hn, hb]
theorem ev_nilC : nilC s = .ok ([], s) := rfl
theorem ev_consC {bb : Bool} {as : List AV} (ha : fa s = .ok (x, s1)) (hb : gC s1 = .ok (as, s2)) (hn : bb = true → x.nl = true) : consC bb fa gC s = .ok (.dat x :: as, s2) := by
  have hn : ¬ (bb = true ∧ x.nl = false) := fun q => by rw [hn q.1] at q; exact nomatch q.2
  simp only [consC, ha, Res.bind, if_neg hn, hb]
theorem ev_slotC {i : Nat} {as : List AV} (h : s.sl[i]? = some (some x)) (hb : gC s = .ok (as, s2)) : slotC i gC s = .ok (.slot i :: as, s2) := by
  simp only [slotC, h, Res.bind, hb]
theorem ev_nilP : nilP s = .ok [] := rfl
theorem ev_snocP (ha : fp s = .ok ds) (hb : fa s = .ok (.imm d, s1)) : snocP fp fa s = .ok (ds ++ [d]) := by simp only [snocP, ha, Res.bind, hb]
theorem ev_take {i : Nat} (h : s.sl[i]? = some (some x)) : takeE i s = .ok (x, ⟨s.sl.set i none, s.ob⟩) := by simp only [takeE, takeV, h]
theorem ev_rd {i : Nat} (hp : fp s = .ok ds) (h : s.sl[i]? = some (some x)) (hg : getP x ds = some z) (hr : readV s.ob z = some y) : rdE i fp s = .ok (y, s) := by simp only [rdE, hp, noExc, Res.bind, h, hg, hr]
theorem ev_frz (ha : fa s = .ok (x, s1)) (hn : x.nl = true) (hd : x.dat0 = some d) : frzE fa s = .ok (.imm d, s1) := by simp only [frzE, ha, Res.bind, hn, if_pos, hd]
theorem ev_noO : noO s = .ok (none, s) := rfl
theorem ev_intO (ha : fa s = .ok (.imm (.int i), s1)) : intO fa s = .ok (some i, s1) := by simp only [intO, ha, Res.bind]
theorem ev_sl {fl fh : LS → Res (Option Int × LS)} {lo hi : Option Int} (ha : fa s = .ok (x, s1)) (hl : fl s1 = .ok (lo, s2)) (hh : fh s2 = .ok (hi, s3)) (hd : x.dat s3.ob = some d) (hs : slD d lo hi = some r) (hz : r.lv x.lh = z) : slE false fa fl fh s = .ok (z, s3) := by
  simp only [slE, Bool.false_eq_true, if_false, ha, Res.bind, hl, hh, hd, hs, hz]
theorem ev_mut {i : Nat} {g : LV → List LV → Option (LV × LV)} {z' : LV} (hp : fp s = .ok ds) (hl : isLst (getF s i ds) = true) (ha : gA s = .ok (xs, s1)) (hz : getF s1 i ds = some z) (hn : nlAll xs = true) (hg : g z xs = some (z', y)) (hw : putF s1 i ds z' = some s2) : mutE i false g fp gA s = .ok (y, s2) := by
  simp only [mutE, hp, noExc, Res.bind, hl, ha, hz, hn, hg, hw, Bool.false_eq_true, Bool.true_eq_false, if_false, if_true]
theorem ev_lr (ha : fa s = .ok (.imm (.int j), s1)) (h : rgOk 0 j = true) : lrE fa s = .ok (.lst ((rangeD 0 j).map .imm), s1) := by simp only [lrE, ha, Res.bind, h, if_true]
theorem ev_itP (ha : fa s = .ok (x, s1)) (hd : x.dat s1.ob = some d) (hi : itemsD d = some ds) (hl : x.lh = false) : itP fa s = .ok ((ds.map .imm, false), s1) := by
  simp only [itP, ha, Res.bind, hd, hi, hl]
  rfl
theorem ev_itPl (ha : fa s = .ok (x, s1)) (hd : x.dat s1.ob = some d) (hi : itemsD d = some ds) : itP fa s = .ok ((ds.map (mkImm x.lh), x.lh), s1) := by
  simp only [itP, ha, Res.bind, hd, hi]
theorem ev_itR1 (ha : gA s = .ok ([.imm (.int j)], s1)) (h : small62 j = true) : itR true gA s = .ok (((rangeD 0 j).map .imm, false), s1) := by simp only [itR, itR1, if_true, ha, Res.bind, h]
theorem ev_itR2 (ha : gA s = .ok ([.imm (.int i), .imm (.int j)], s1)) (h : small62 i = true) (h' : small62 j = true) : itR false gA s = .ok (((rangeD i j).map .imm, false), s1) := by simp only [itR, itR2, Bool.false_eq_true, if_false, ha, Res.bind, h, h', Bool.and_self, if_true]
theorem ev_tst (ha : fa s = .ok (.imm (.bool b), s1)) : tstE fa s = .ok (b, s1) := by simp only [tstE, tstR, ha, Res.bind, boolOf]
theorem ev_and (ha : fa s = .ok (.imm (.bool b), s1)) (hb : b = true → fb s1 = .ok (.imm (.bool c), s1)) : andE fa fb s = .ok (.imm (.bool (b && c)), s1) := by
  cases b with
  | false => simp only [andE, tstR, ha, Res.bind, boolOf, Bool.false_eq_true, if_false, Bool.false_and]
  | true => simp only [andE, tstR, ha, Res.bind, boolOf, if_true, hb rfl, Bool.true_and]
theorem ev_andE (ha : fa s = .ok (.imm (.bool b), s1)) {R : Res (LV × LS)} (hf : b = false → R = .ok (.imm (.bool false), s1)) (ht : b = true → ∃ c s2, fb s1 = .ok (.imm (.bool c), s2) ∧ R = .ok (.imm (.bool c), s2)) : andE fa fb s = R := by
  cases b with
  | false => simp only [andE, tstR, ha, Res.bind, boolOf, Bool.false_eq_true, if_false, hf rfl]
  | true =>
    obtain ⟨c, s2, e, h⟩ := ht rfl
    simp only [andE, tstR, ha, Res.bind, boolOf, if_true, e, h]
theorem ev_or (ha : fa s = .ok (.imm (.bool b), s1)) (hb : b = false → fb s1 = .ok (.imm (.bool c), s1)) : orE fa fb s = .ok (.imm (.bool (b || c)), s1) := by
  cases b with
  | true => simp only [orE, tstR, ha, Res.bind, boolOf, if_true, Bool.true_or]
  | false => simp only [orE, tstR, ha, Res.bind, boolOf, Bool.false_eq_true, if_false, hb rfl, Bool.false_or]
theorem ev_not (ha : fa s = .ok (.imm (.bool b), s1)) : notE fa s = .ok (.imm (.bool (!b)), s1) := by simp only [notE, tstR, ha, Res.bind, boolOf]
theorem ev_ite (hc : fc s = .ok (.imm (.bool b), s1)) {R : Res (LV × LS)} (ht : b = true → fa s1 = R) (hf : b = false → fb s1 = R) : iteE fc fa fb s = R := by
  cases b with
  | true => simp only [iteE, tstR, hc, Res.bind, boolOf, if_true, ht rfl]
  | false => simp only [iteE, tstR, hc, Res.bind, boolOf, Bool.false_eq_true, if_false, hf rfl]
/-! calls -/
theorem ev_call0 {cf : CF} {f : Nat} {as : List AV} (ha : gC s = .ok (as, s1)) (hx : argsOf s1 as = some xs) (h0 : slotsOf as = []) (hl : lhs (dataOf as) = false ∨ x.hm = true) (hc : cf f xs = .ok x []) (hn : x.nl = true) : callEE cf f gC s = .ok (x, s1) := by
  have q : ¬ ((lhs (dataOf as) = true ∧ x.hm = false) ∨ x.nl = false ∨ nlAll ([] : List LV) = false) := fun q => by
    rcases q with ⟨q, q'⟩ | q | q
    · rcases hl with hl | hl
      · rw [hl] at q; cases q
      · rw [hl] at q'; cases q'
    · rw [hn] at q; cases q
    · cases q
  simp only [callEE, ha, Res.bind, callE, hx, h0, hc, distinct, if_neg q, setOuts, wipeL]
  simp
theorem ev_call1 {cf : CF} {f i : Nat} {as : List AV} (ha : gC s = .ok (as, s1)) (hx : argsOf s1 as = some xs) (h0 : slotsOf as = [i]) (hl : lhs (dataOf as) = false) (hc : cf f xs = .ok x [y]) (hn : x.nl = true) (hy : y.nl = true) : callEE cf f gC s = .ok (x, ⟨s1.sl.set i (some y), s1.ob⟩) := by
  have q : ¬ ((lhs (dataOf as) = true ∧ x.hm = false) ∨ x.nl = false ∨ nlAll ([y] : List LV) = false) := fun q => by
    rcases q with ⟨q, q'⟩ | q | q
    · rw [hl] at q; cases q
    · rw [hn] at q; cases q
    · simp [nlAll, hy] at q
  rw [hl] at q
  simp only [callEE, ha, Res.bind, callE, hx, h0, hc, hl, distinct, if_neg q, setOuts, wipeL, List.set_set]
  simp
theorem argsOf_nil : argsOf s [] = some [] := rfl
theorem argsOf_dat {as : List AV} (h : x.dat s.ob = some d) (t : argsOf s as = some xs) : argsOf s (.dat x :: as) = some (.imm d :: xs) := by simp only [argsOf, h, t]
theorem argsOf_slot {i : Nat} {as : List AV} (h : s.sl[i]? = some (some x)) (g : x.giv = true) (t : argsOf s as = some xs) : argsOf s (.slot i :: as) = some (x :: xs) := by simp only [argsOf, h, t, g, if_true]
end
/-! statements -/
section
variable {s s1 s2 s3 : LS} {fa fb fc : EvF} {gA : LS → Res (List LV × LS)} {fp : LS → Res (List PyData)} {ft : LS → Res (Bool × LS)} {fi : ItF} {ga gb : LS → SR} {x y z : LV} {xs ys : List LV} {d e : PyData} {ds : List PyData} {b c : Bool} {R : SR} {sl' : List (Option LV)} {t : Tg}
theorem st_seq (ha : ga s = .nxt s1) (hb : gb s1 = R) : seqS ga gb s = R := by simp only [seqS, ha, SR.bind, hb]
theorem st_seqR (ha : ga s = .ret x s1) : seqS ga gb s = .ret x s1 := by simp only [seqS, ha, SR.bind]
theorem st_nxt : nxtS s = .nxt s := rfl
theorem st_if (hc : ft s = .ok (b, s1)) (ht : b = true → ga s1 = R) (hf : b = false → gb s1 = R) : ifS ft ga gb s = R := by
  cases b with
  | true => simp only [ifS, hc, Res.toS, if_true, ht rfl]
  | false => simp only [ifS, hc, Res.toS, Bool.false_eq_true, if_false, hf rfl]
theorem st_set {i : Nat} (ha : fa s = .ok (x, s1)) (hn : x.nl = true) (hi : i < s1.sl.length) (hs : s1.sl.set i (some x) = sl') : setS1 i fa s = .nxt ⟨sl', s1.ob⟩ := by
  simp only [setS1, ha, Res.toS, hn, if_true, bindT, if_pos hi, hs]
theorem st_par {is : List Nat} (ha : gA s = .ok (xs, s1)) (hn : nlAll xs = true) (hs : parL is xs s1.sl = some sl') : parS is gA s = .nxt ⟨sl', s1.ob⟩ := by
  simp only [parS, ha, Res.toS, hn, if_true, hs]
theorem st_asg (ha : fa s = .ok (x, s1)) (hn : x.nl = true) (hs : bindT t x s1.sl = some sl') : asgS t fa s = .nxt ⟨sl', s1.ob⟩ := by
  simp only [asgS, ha, Res.toS, hn, if_true, hs]
theorem st_ex (ha : fa s = .ok (x, s1)) : exS fa s = .nxt s1 := by simp only [exS, ha, Res.toS]
theorem st_ret (ha : fa s = .ok (x, s1)) : retS fa s = .ret x s1 := by simp only [retS, ha, Res.toS]
theorem st_for (hi : fi s = .ok ((xs, false), s1)) (h : forL t ga xs s1 = R) : forS fi t ga s = R := by simp only [forS, hi, Res.toS, Bool.false_eq_true, if_false, h]
theorem st_whl (h : whlL ft ga fuel s = R) : whlS ft ga s = R := h
theorem st_setix {i : Nat} {z' : LV} (ha : fa s = .ok (x, s1)) (hp : fp s1 = .ok ds) (hk : fc s1 = .ok (.imm d, s2)) (hz : getF s1 i ds = some z) (hn : x.nl = true) (hg : putZ z d x = some z') (hw : putF s1 i ds z' = some s3) : setS i false fa fp fc s = .nxt s3 := by
  simp only [setS, Bool.false_eq_true, if_false, ha, Res.toS, hp, noExc, hk, hz, hn, if_true, hg, hw]
theorem st_share {i : Nat} {k : Key} {ks : List (Key × LV)} (h : s.sl[i]? = some (some (.dic ks))) (hl : lookK ks k = some x) (hg : x.giv = true) : shareS i k s = .nxt ⟨s.sl.set i (some (.dic (setK ks k (.ref s.ob.length)))), s.ob ++ [x]⟩ := by
  simp only [shareS, h, hl, hg, if_true]
/-- a walk, item by item -/
theorem forL_run {α : Type} (v : α → LV) (I : List α → LS → Prop) {body : LS → SR} : ∀ {as done : List α} {s : LS}, I done s →
    (∀ pre x rest, done ++ as = pre ++ x :: rest → ∀ s, I pre s → ∃ sl', bindT t (v x) s.sl = some sl' ∧ ∃ s', (body ⟨sl', s.ob⟩ = .nxt s' ∨ body ⟨sl', s.ob⟩ = .cnt s') ∧ I (pre ++ [x]) s') →
    ∃ s', forL t body (as.map v) s = .nxt s' ∧ I (done ++ as) s'
  | [], done, s, h, _ => ⟨s, rfl, by rwa [List.append_nil]⟩
  | x :: as, done, s, h, hs => by
    obtain ⟨sl', e, s', hb, h'⟩ := hs done x as rfl s h
    obtain ⟨s2, e2, h2⟩ := forL_run v I (as := as) (done := done ++ [x]) h' fun pre y rest q => hs pre y rest (by rw [← q, List.append_assoc]; rfl)
    refine ⟨s2, ?_, by rwa [List.append_assoc] at h2⟩
    show forL t body (v x :: as.map v) s = _
    rw [forL, e]
    rcases hb with hb | hb <;> simp only [hb] <;> exact e2
/-- a walk that may hand back on the way -/
theorem whlL_run (I : Nat → LS → Prop) (Q : LS → Prop) {body : LS → SR} (hs : ∀ m s, I (m + 1) s → ∃ s1 s2, ft s = .ok (true, s1) ∧ (body s1 = .nxt s2 ∨ body s1 = .cnt s2) ∧ I m s2) (h0 : ∀ s, I 0 s → ∃ s1, ft s = .ok (false, s1) ∧ Q s1) : ∀ {m n : Nat} {s : LS}, m < n → I m s → ∃ s', whlL ft body n s = .nxt s' ∧ Q s'
  | 0, n + 1, s, _, h => by
    obtain ⟨s1, e, q⟩ := h0 s h
    exact ⟨s1, by simp only [whlL, e], q⟩
  | m + 1, n + 1, s, l, h => by
    obtain ⟨s1, s2, e, hb, h2⟩ := hs m s h
    obtain ⟨s', e', q⟩ := whlL_run I Q hs h0 (Nat.lt_of_succ_lt_succ l) h2
    refine ⟨s', ?_, q⟩
    rcases hb with hb | hb <;> simp only [whlL, e, hb] <;> exact e'
/-- a comprehension whose items change nothing -/
theorem compL_pure {α : Type} (v : α → LV) {own : List Nat} {fe : EvF} {ob : List LV} {W : List (Option LV)} {p : α → Bool} {e : α → LV} {B : α → List (Option LV)} : ∀ {as : List α} {sl : List (Option LV)}, wipeL sl own = W →
    (∀ a ∈ as, bindT t (v a) W = some (B a) ∧ wipeL (B a) own = W) → (∀ a ∈ as, ft ⟨B a, ob⟩ = .ok (p a, ⟨B a, ob⟩)) → (∀ a ∈ as, p a = true → fe ⟨B a, ob⟩ = .ok (e a, ⟨B a, ob⟩)) →
    ∃ sl', compL own t (lcStep ft fe) (as.map v) ⟨sl, ob⟩ = .ok ((as.filter p).map e, ⟨sl', ob⟩) ∧ (sl' = sl ∨ ∃ a ∈ as, sl' = B a)
  | [], sl, _, _, _, _ => ⟨sl, rfl, .inl rfl⟩
  | a :: as, sl, hw, hB, ht, he => by
    obtain ⟨b1, b2⟩ := hB a List.mem_cons_self
    obtain ⟨sl', e1, e2⟩ := compL_pure v (as := as) (sl := B a) b2 (fun a h => hB a (List.mem_cons_of_mem _ h)) (fun a h => ht a (List.mem_cons_of_mem _ h)) (fun a h => he a (List.mem_cons_of_mem _ h))
    refine ⟨sl', ?_, .inr ?_⟩
    · show compL own t (lcStep ft fe) (v a :: as.map v) ⟨sl, ob⟩ = _
      rw [compL]
      simp only [hw, b1, lcStep, ht a List.mem_cons_self, Res.bind]
      cases hp : p a with
      | true => simp only [if_true, he a List.mem_cons_self hp, Res.bind, e1, List.filter_cons, hp, List.map_cons]; rfl
      | false => simp only [Bool.false_eq_true, if_false, Res.bind, e1, List.filter_cons, hp]; rfl
    · rcases e2 with rfl | ⟨a', h, rfl⟩
      · exact ⟨a, List.mem_cons_self, rfl⟩
      · exact ⟨a', List.mem_cons_of_mem _ h, rfl⟩
theorem ev_lc {α : Type} (as : List α) (v : α → LV) {own : List Nat} {be : Bool} {fe : EvF} {W : List (Option LV)} {p : α → Bool} {e : α → LV} {B : α → List (Option LV)}
    (hi : fi s = .ok ((as.map v, false), s1)) (hc : cleanL s1.sl own = true) (hn : nlL s1 = true) (hx : nlAll (as.map v) = true) (hW : wipeL s1.sl own = W)
    (hB : ∀ a ∈ as, bindT t (v a) W = some (B a)) (hB2 : ∀ a ∈ as, wipeL (B a) own = W) (h0 : backL s1.sl s1.sl own = s1.sl) (h1 : ∀ a ∈ as, backL s1.sl (B a) own = s1.sl)
    (ht : ∀ a ∈ as, ft ⟨B a, s1.ob⟩ = .ok (p a, ⟨B a, s1.ob⟩)) (he : ∀ a ∈ as, p a = true → fe ⟨B a, s1.ob⟩ = .ok (e a, ⟨B a, s1.ob⟩)) (hl : ((as.filter p).map e).length ≤ sizeLine) (hy : nlAll ((as.filter p).map e) = true) :
    lcE own be t fi ft fe s = .ok (.lst ((as.filter p).map e), s1) := by
  obtain ⟨sl1, ob1⟩ := s1
  obtain ⟨sl', e1, e2⟩ := compL_pure v (sl := sl1) (ob := ob1) hW (fun a h => ⟨hB a h, hB2 a h⟩) ht he
  have hbad : ¬ lcBad own be ((as.map v, false), (⟨sl1, ob1⟩ : LS)) := fun q => by
    rcases q with ⟨q, _⟩ | q | q | q
    · cases q
    · rw [hc] at q; cases q
    · rw [hn] at q; cases q
    · rw [hx] at q; cases q
  have hb : backL sl1 sl' own = sl1 := by
    rcases e2 with rfl | ⟨a, h, rfl⟩
    · exact h0
    · exact h1 a h
  simp only [lcE, hi, Res.bind, if_neg hbad, e1, noExc, lcEnd, hb]
  exact if_pos ⟨hl, hy⟩
theorem ev_ty : tyE s = .ok (true, s) := rfl
end
/-! what goes back unchanged -/
mutual
theorem rsv_giv (ob : List (Option LV)) : ∀ {x : LV}, LV.giv.giv1 x = true → rsv ob x = some (x, ob)
  | .imm _, _ => rfl
  | .lst xs, h => by rw [rsv, rsvs_giv ob (xs := xs) (by simpa [LV.giv.giv1] using h)]; rfl
  | .tup xs, h => by rw [rsv, rsvs_giv ob (xs := xs) (by simpa [LV.giv.giv1] using h)]; rfl
  | .dic ks, h => by rw [rsv, rsvk_giv ob (ks := ks) (by simpa [LV.giv.giv1] using h)]; rfl
  | .ref _, h => by simp [LV.giv.giv1] at h
  | .lent _, h => by simp [LV.giv.giv1] at h
theorem rsvs_giv (ob : List (Option LV)) : ∀ {xs : List LV}, LV.giv.givs xs = true → rsv.rsvs ob xs = some (xs, ob)
  | [], _ => rfl
  | x :: xs, h => by
    have h : LV.giv.giv1 x = true ∧ LV.giv.givs xs = true := by simpa [LV.giv.givs] using h
    simp only [rsv.rsvs, rsv_giv ob h.1, rsvs_giv ob h.2]
theorem rsvk_giv (ob : List (Option LV)) : ∀ {ks : List (Key × LV)}, LV.giv.givk ks = true → rsv.rsvk ob ks = some (ks, ob)
  | [], _ => rfl
  | (k, x) :: xs, h => by
    have h : LV.giv.giv1 x = true ∧ LV.giv.givk xs = true := by simpa [LV.giv.givk] using h
    simp only [rsv.rsvk, rsv_giv ob h.1, rsvk_giv ob h.2]
end
section
variable {np ns : Nat} {io : List Nat} {body : LS → SR} {xs ys : List LV} {x y : LV} {s : LS} {ob ob' : List (Option LV)}
theorem run_ret (hl : xs.length = np) (hn : nlAll xs = true) (hb : body ⟨xs.map some ++ List.replicate (ns - np) none, []⟩ = .ret x s) (hx : rsv (s.ob.map some) x = some (y, ob)) (ho : outsOf s.sl io ob = some (ys, ob')) : runB np ns io body xs = .ok y ys := by
  simp only [runB, hl, hn, hb, endOf, hx, ho, and_self, if_true]
theorem run_nxt (hl : xs.length = np) (hn : nlAll xs = true) (hb : body ⟨xs.map some ++ List.replicate (ns - np) none, []⟩ = .nxt s) (ho : outsOf s.sl io (s.ob.map some) = some (ys, ob')) : runB np ns io body xs = .ok (.imm .none) ys := by
  simp only [runB, hl, hn, hb, endOf, ho, and_self, if_true]
end
/-! lists of data -/
theorem dats0_imm : ∀ ds : List PyData, LV.dats0 (ds.map .imm) = some ds
  | [] => rfl
  | d :: ds => by simp only [List.map_cons, LV.dats0, LV.dat0, dats0_imm ds]
theorem dat_lst {ob : List LV} (ds : List PyData) : (LV.lst (ds.map .imm)).dat ob = some (.list ds) := by simp only [LV.dat, LV.dat0, dats0_imm, Option.map_some]
theorem nls_imms : ∀ ds : List PyData, LV.nls (ds.map .imm) = true
  | [] => rfl
  | d :: ds => by simp only [List.map_cons, LV.nls, LV.nl, nls_imms ds, Bool.and_self]
theorem nl_lst (ds : List PyData) : (LV.lst (ds.map .imm)).nl = true := by rw [LV.nl]; exact nls_imms ds
theorem givs_imm : ∀ ds : List PyData, LV.giv.givs (ds.map .imm) = true
  | [] => rfl
  | d :: ds => by simp only [List.map_cons, LV.giv.givs, LV.giv.giv1, givs_imm ds, Bool.and_self]
theorem nlAll_imm (ds : List PyData) : nlAll (ds.map .imm) = true := by
  simp only [nlAll, List.all_map, List.all_eq_true]
  intro d _
  rfl
/-! operations -/
theorem atI_nat {α : Type} {xs : List α} {k : Nat} {x : α} (h : xs[k]? = some x) : atI xs (k : Int) = some x := by
  have hl : k < xs.length := (List.getElem?_eq_some_iff.mp h).1
  simp only [atI, ixN]
  rw [if_pos (by omega), if_pos (by omega)]
  simpa using h
theorem ixK_tup {xs : List PyData} {k : Nat} {d : PyData} (h : xs[k]? = some d) : ixK (.tuple xs) (.int k) = some (.dat d) := by simp only [ixK, ixD, atI_nat h, Option.map_some]
theorem ixK_lst {xs : List PyData} {k : Nat} {d : PyData} (h : xs[k]? = some d) : ixK (.list xs) (.int k) = some (.dat d) := by simp only [ixK, ixD, atI_nat h, Option.map_some]
theorem okD_int (i : Int) : okD (.int i) = true := by simp [okD, PyData.plain, PyData.depth]
theorem okD_bool (i : Bool) : okD (.bool i) = true := by simp [okD, PyData.plain, PyData.depth]
theorem okD_str (i : Str) : okD (.str i) = true := by simp [okD, PyData.plain, PyData.depth]
theorem alike_int (i j : Int) : PySem.W.alike (.int i) (.int j) = true := rfl
theorem lt_int (i j : Int) : cmpK .Lt (.int i) (.int j) = some (.dat (.bool (decide (i < j)))) := by
  simp [cmpK, cmpD, ltD, alike_int, okD_int, nnD, PySem.W.dataLt_int]
theorem gt_int (i j : Int) : cmpK .Gt (.int i) (.int j) = some (.dat (.bool (decide (j < i)))) := by
  simp [cmpK, cmpD, ltD, alike_int, okD_int, nnD, PySem.W.dataLt_int]
theorem ge_int (i j : Int) : cmpK .GtE (.int i) (.int j) = some (.dat (.bool (decide (j ≤ i)))) := by
  simp only [cmpK, cmpD, ltD, alike_int, okD_int, nnD, PySem.W.dataLt_int, Bool.and_self, if_true, Option.map_some]
  congr 3
  by_cases h : j ≤ i
  · rw [decide_eq_true h, decide_eq_false (by omega)]; rfl
  · rw [decide_eq_false h, decide_eq_true (by omega)]; rfl
theorem le_int (i j : Int) : cmpK .LtE (.int i) (.int j) = some (.dat (.bool (decide (i ≤ j)))) := by
  simp only [cmpK, cmpD, ltD, alike_int, okD_int, nnD, PySem.W.dataLt_int, Bool.and_self, if_true, Option.map_some]
  congr 3
  by_cases h : i ≤ j
  · rw [decide_eq_true h, decide_eq_false (by omega)]; rfl
  · rw [decide_eq_false h, decide_eq_true (by omega)]; rfl
theorem okD_datum {α : Type} [DecidableEq α] [PySem.W.Datum α] (a : α) (h : PySem.W.Datum.depth α ≤ 40 := by decide) : okD (PySem.W.Datum.toD a) = true := by
  simp only [okD, PySem.W.Datum.plain, Bool.true_and, decide_eq_true_eq]
  exact Nat.le_trans (PySem.W.Datum.depth_le a) h
theorem eq_datum {α : Type} [DecidableEq α] [PySem.W.Datum α] (a b : α) (h : PySem.W.Datum.depth α ≤ 40 := by decide) : cmpK .Eq (PySem.W.Datum.toD a) (PySem.W.Datum.toD b) = some (.dat (.bool (decide (a = b)))) := by
  simp only [cmpK, cmpD, okD_datum a h, okD_datum b h, Bool.and_self, if_true, PySem.W.Datum.eqv, Option.map_some]
theorem ne_datum {α : Type} [DecidableEq α] [PySem.W.Datum α] (a b : α) (h : PySem.W.Datum.depth α ≤ 40 := by decide) : cmpK .NotEq (PySem.W.Datum.toD a) (PySem.W.Datum.toD b) = some (.dat (.bool (!decide (a = b)))) := by
  simp only [cmpK, cmpD, okD_datum a h, okD_datum b h, Bool.and_self, if_true, PySem.W.Datum.eqv, Option.map_some]
theorem eq_int (i j : Int) : cmpK .Eq (.int i) (.int j) = some (.dat (.bool (decide (i = j)))) := eq_datum i j
theorem ne_int (i j : Int) : cmpK .NotEq (.int i) (.int j) = some (.dat (.bool (!decide (i = j)))) := ne_datum i j
theorem mod_int {i j : Int} (h : 0 < j) : bopD .Mod (.int i) (.int j) = some (.dat (.int (i % j))) := by simp [bopD, h]
theorem fdiv_int {i j : Int} (h : 0 < j) (h' : j.natAbs.log2 < 9000) : bopD .FloorDiv (.int i) (.int j) = some (.dat (.int (i / j))) := by simp [bopD, h, h']
theorem mul_int {i j : Int} (h : mulOk i j = true) : bopD .Mult (.int i) (.int j) = some (.dat (.int (i * j))) := by simp [bopD, h]
theorem add_int (i j : Int) : bopD .Add (.int i) (.int j) = some (.dat (.int (i + j))) := rfl
theorem sub_int (i j : Int) : bopD .Sub (.int i) (.int j) = some (.dat (.int (i - j))) := rfl
/-- a text shown -/
theorem repr_ok {d : PyData} (h1 : d.showable = true) (h2 : d.depth ≤ 40) (h3 : d.leavesShort 13 = true) (h4 : d.bulk ≤ 2 ^ 20) (h5 : d.plain = true) : biD .repr [d] = some (.dat (.str d.shown)) := by
  have h := PyData.shown_fits_bulk (by decide) (by decide) h3 h4
  simp [biD, h1, h2, h, h5]
/-- sorted -/
theorem pw_mem {α : Type} {R : α → α → Prop} : ∀ {ys : List α}, ys.Pairwise R → ∀ a ∈ ys, ∀ b ∈ ys, a = b ∨ R a b ∨ R b a
  | [], _, a, h, _, _ => by cases h
  | y :: ys, p, a, ha, b, hb => by
    obtain ⟨p1, p2⟩ := List.pairwise_cons.mp p
    rcases List.mem_cons.mp ha with rfl | ha' <;> rcases List.mem_cons.mp hb with rfl | hb'
    · exact .inl rfl
    · exact .inr (.inl (p1 _ hb'))
    · exact .inr (.inr (p1 _ ha'))
    · exact pw_mem p2 a ha' b hb'
theorem dataLe_eq (a b : PyData) : PySem.W.dataLe false id a b = !PySem.W.dataLt b a := rfl
theorem dataLt_asymm {a b : PyData} (h : PySem.W.dataLt a b = true) : PySem.W.dataLt b a = false := by
  have tl : PySem.W.TotalLe (PySem.W.dataLe false id) := PySem.W.sortLe_total (listOrd itemOrd) false PySem.W.keyToks
  rcases tl.total a b with t | t
  · rw [dataLe_eq] at t
    simpa using t
  · rw [dataLe_eq, h] at t; cases t
theorem sortD_eq {xs ys : List PyData} (hp : ys.Perm xs) (hs : ys.Pairwise fun a b => PySem.W.dataLt a b = true) : sortD xs = ys := by
  have tl : PySem.W.TotalLe (PySem.W.dataLe false id) := PySem.W.sortLe_total (listOrd itemOrd) false PySem.W.keyToks
  have hq := List.mergeSort_perm xs (PySem.W.dataLe false id)
  refine List.Perm.eq_of_pairwise (le := fun a b => PySem.W.dataLe false id a b = true) (fun a b ha hb h1 h2 => ?_) (List.pairwise_mergeSort (fun a b c => tl.trans a b c) (fun a b => by simpa using tl.total a b) xs) (hs.imp fun h => by rw [dataLe_eq, dataLt_asymm h]; rfl) (hq.trans hp.symm)
  rw [dataLe_eq] at h1 h2
  rcases pw_mem hs a (hp.symm.subset (hq.subset ha)) b hb with e | e | e
  · exact e
  · rw [e] at h2; cases h2
  · rw [e] at h1; cases h1
end MP
/-! MP.34: evaluation by one word -/
namespace MP
open PySem PySem.Spec PyProof.Rows L2
section
variable {s s1 s2 s3 : LS} {fa fb fc : EvF} {x y z : LV} {xs ys : List LV} {d e : PyData} {ds es : List PyData} {r : RK} {b c : Bool} {i j : Int} {n m : Nat} {ob : List LV}
theorem v_imm {i : Nat} (h : s.sl[i]? = some (some (.imm d)) := by rfl) : varE i s = .ok (.imm d, s) := ev_v h rfl
theorem v_ref {i l : Nat} (h : s.sl[i]? = some (some (.ref l)) := by rfl) : varE i s = .ok (.ref l, s) := ev_v h rfl
theorem v_lst {i : Nat} (h : s.sl[i]? = some (some (.lst (ds.map .imm))) := by rfl) : varE i s = .ok (.lent (.list ds), s) := ev_v h (by
  simp only [readV, dat_lst, Option.map_some, mkLent]
  rfl)
theorem v_nil {i : Nat} (h : s.sl[i]? = some (some (.lst [])) := by rfl) : varE i s = .ok (.lent (.list []), s) := v_lst (ds := []) h
theorem dat_imm : (LV.imm d).dat ob = some d := rfl
theorem dat_lent : (LV.lent d).dat ob = some d := rfl
theorem dat_ref {l : Nat} (h : ob[l]? = some (.lst (ds.map .imm)) := by rfl) : (LV.ref l).dat ob = some (.list ds) := by
  simp only [LV.dat, h, LV.dat0, dats0_imm, Option.map_some]
theorem dat_nil : (LV.lst []).dat ob = some (.list []) := rfl
theorem lvB_imm : lvB (.imm d) (.imm e) (.dat (.int i)) = .imm (.int i) := rfl
theorem lvB_immd {f : PyData} : lvB (.imm d) (.imm e) (.dat f) = .imm f := rfl
theorem lvB_int : lvB x y (.dat (.int i)) = .imm (.int i) := by
  simp only [lvB, RK.lv, mkImm, mkLent, im]
  split <;> rfl
theorem lvB_bool : lvB x y (.dat (.bool b)) = .imm (.bool b) := by
  simp only [lvB, RK.lv, mkImm, mkLent, im]
  split <;> rfl
theorem lvC_dat : lvC x y (.dat d) = .imm d := rfl
theorem rk_imm {f : PyData} : (RK.dat f).lv (lhs [.imm d]) = .imm f := rfl
theorem rk_int : (RK.dat (.int i)).lv b = .imm (.int i) := by cases b <;> rfl
theorem rk_bool : (RK.dat (.bool c)).lv b = .imm (.bool c) := by cases b <;> rfl
theorem rk_str {t : Str} : (RK.dat (.str t)).lv b = .imm (.str t) := by cases b <;> rfl
theorem rk_nl : (RK.nl ds).lv (lhs [.imm d]) = .lst (ds.map .imm) := rfl
theorem len_lst : biD .len [.list ds] = some (.dat (.int ds.length)) := rfl
theorem len_tup : biD .len [.tuple ds] = some (.dat (.int ds.length)) := rfl
theorem len_scr : biD .len [.dict [(.none, .list ds)]] = some (.dat (.int ds.length)) := rfl
theorem len_scrD {ns : List Int} : biD .len [scrD ns] = some (.dat (.int ns.length)) := by
  simp only [scrD, biD, List.length_map]
theorem int_int : biD .int [.int i] = some (.dat (.int i)) := rfl
theorem tup_lst : biD .tuple [.list ds] = some (.dat (.tuple ds)) := rfl
theorem lst_lst : biD .list [.list ds] = some (.nl ds) := rfl
theorem lst_tup : biD .list [.tuple ds] = some (.nl ds) := rfl
theorem nf {P : Prop} : false = true → P := fun h => nomatch h
theorem nl_imm : true = true → (LV.imm d).nl = true := fun _ => rfl
theorem mk_imm2 : mkTup [.imm d, .imm e] = .imm (.tuple [d, e]) := rfl
theorem mk_imm3 {f : PyData} : mkTup [.imm d, .imm e, .imm f] = .imm (.tuple [d, e, f]) := rfl
theorem mk_nil : mkTup [] = .imm (.tuple []) := rfl
theorem len2 : [x, y].length ≤ sizeLine := by simp [sizeLine]
theorem len0 : ([] : List LV).length ≤ sizeLine := by decide
theorem len1 : [x].length ≤ sizeLine := by simp [sizeLine]
theorem len3 : [x, y, z].length ≤ sizeLine := by simp [sizeLine]
theorem hm_imm (h : im d = true) : (LV.imm d).hm = true := h
end
theorem ltl {i n : Nat} (h : Nat.ble (i + 1) n = true := by rfl) : i < n := Nat.le_of_ble_eq_true h
theorem rd_key {s : LS} {i : Nat} {k : Str} {x z y : LV} (h : s.sl[i]? = some (some x) := by rfl) (hg : getP x [.str k] = some z := by rfl) (hr : readV s.ob z = some y := by rfl) : rdE i (snocP nilP (cE (.str k))) s = .ok (y, s) := ev_rd (ev_snocP rfl rfl) h hg hr
section
variable {s s1 s2 : LS} {fa : EvF} {gA : LS → Res (List LV × LS)} {x : LV} {xs : List LV} {sl' : List (Option LV)} {t : Tg}
theorem st_set2 {i : Nat} (ha : fa s = .ok (x, s1)) (hn : x.nl = true) (hi : i < s1.sl.length) (hr : (⟨s1.sl.set i (some x), s1.ob⟩ : LS) = s2) : setS1 i fa s = .nxt s2 := by rw [st_set ha hn hi rfl, hr]
theorem st_par2 {is : List Nat} (ha : gA s = .ok (xs, s1)) (hn : nlAll xs = true) (hs : parL is xs s1.sl = some sl') (hr : (⟨sl', s1.ob⟩ : LS) = s2) : parS is gA s = .nxt s2 := by rw [st_par ha hn hs, hr]
theorem st_asg2 (ha : fa s = .ok (x, s1)) (hn : x.nl = true) (hs : bindT t x s1.sl = some sl') (hr : (⟨sl', s1.ob⟩ : LS) = s2) : asgS t fa s = .nxt s2 := by rw [st_asg ha hn hs, hr]
theorem st_share2 {i : Nat} {k : Key} {ks : List (Key × LV)} (h : s.sl[i]? = some (some (.dic ks))) (hl : lookK ks k = some x) (hg : x.giv = true) (hr : (⟨s.sl.set i (some (.dic (setK ks k (.ref s.ob.length)))), s.ob ++ [x]⟩ : LS) = s2) : shareS i k s = .nxt s2 := by rw [st_share h hl hg, hr]
theorem ev_take2 {i : Nat} (h : s.sl[i]? = some (some x)) (hr : (⟨s.sl.set i none, s.ob⟩ : LS) = s2) : takeE i s = .ok (x, s2) := by rw [ev_take h, hr]
theorem ev_call2 {y : LV} {gC : LS → Res (List AV × LS)} {cf : CF} {f i : Nat} {as : List AV} (ha : gC s = .ok (as, s1)) (hx : argsOf s1 as = some xs) (h0 : slotsOf as = [i]) (hl : lhs (dataOf as) = false) (hc : cf f xs = .ok x [y]) (hn : x.nl = true) (hy : y.nl = true) (hr : (⟨s1.sl.set i (some y), s1.ob⟩ : LS) = s2) : callEE cf f gC s = .ok (x, s2) := by rw [ev_call1 ha hx h0 hl hc hn hy, hr]
theorem nlAll_nil : nlAll [] = true := rfl
theorem nlAll_cons (h : x.nl = true) (t : nlAll xs = true) : nlAll (x :: xs) = true := by
  have t : xs.all LV.nl = true := t
  show (x :: xs).all LV.nl = true
  rw [List.all_cons, h, t]; rfl
end
section
variable {ob : List LV} {d : PyData} {ds : List PyData} {l : Nat}
theorem rd_key2 {s : LS} {i : Nat} {k : Str} {x z y : LV} (h : s.sl[i]? = some (some x)) (hg : getP x [.str k] = some z) (hr : readV s.ob z = some y) : rdE i (snocP nilP (cE (.str k))) s = .ok (y, s) := ev_rd (ev_snocP rfl rfl) h hg hr
theorem dat_ref2 {l : Nat} (h : ob[l]? = some (.lst (ds.map .imm))) : (LV.ref l).dat ob = some (.list ds) := dat_ref h
theorem rv_imm : readV ob (.imm d) = some (.imm d) := rfl
theorem rv_ref : readV ob (.ref l) = some (.ref l) := rfl
theorem rv_lst : readV ob (.lst (ds.map .imm)) = some (.lent (.list ds)) := by
  simp only [readV, dat_lst, Option.map_some, mkLent]
  rfl
theorem rv_nil : readV ob (.lst []) = some (.lent (.list [])) := rv_lst (ds := [])
end
end MP
/-! MP.35: from the table of defs to the law's walk -/
namespace MP
open PySem PySem.Spec PyProof.Rows L2
/-- nothing is raised out of a def -/
abbrev noXR : (Addr → Prop) → Hp → Nat → List PyData → Value → Option Addr → Prop := fun _ _ _ _ _ _ => False
theorem noMono : Mono noXR := fun _ _ _ _ _ _ _ _ h => h
theorem cal_mk {Pr : Program} {w : World} {K : PySem.W.Frag} {mg : Str → Option Value} {base : Heap} {XR : (Addr → Prop) → Hp → Nat → List PyData → Value → Option Addr → Prop} {k g np : Nat} {io : List Nat} {x : Str} {cf : CF} {f : Addr} {fd : FuncData} {ps : List Str}
    (F : FnG Pr w K mg base k f fd ps (spF K XR cf g np io)) (h : mg x = some (.ref f)) (kp : PySem.W.keepIn K (.ref f) = true) (b : Binds K fd ps []) :
    ∀ (X : Cx) (Y : Yx), X.prog = Pr → X.w = w → X.K = K → X.mg = mg → X.base = base → Y.K = K → Y.XR = XR → Cal k X Y x cf g np io := fun X Y e1 e2 e3 e4 e5 e6 e7 =>
  ⟨f, fd, ps, by rw [e1, e2, e3, e4, e5, e6, e7]; exact F, by rw [e4]; exact h, by rw [e3]; exact kp, by rw [e3]; exact b⟩
theorem calK_mk {Pr : Program} {w : World} {K : PySem.W.Frag} {mg : Str → Option Value} {base : Heap} {XR : (Addr → Prop) → Hp → Nat → List PyData → Value → Option Addr → Prop} {k g np : Nat} {io : List Nat} {x : Str} {cf : CF} {f : Addr} {fd : FuncData} {ps : List Str}
    (F : FnG Pr w K mg base k f fd ps (spF K XR cf g np io)) (h : mg x = some (.ref f)) (kp : PySem.W.keepIn K (.ref f) = true) (b : ∀ (s : Shared) (ws : List Value), K.In s.heap → ws.length = ps.length → BindsTo s fd ⟨[], ps.zip ws⟩ (ps.zip ws)) :
    ∀ (X : Cx) (Y : Yx), X.prog = Pr → X.w = w → X.K = K → X.mg = mg → X.base = base → Y.K = K → Y.XR = XR → CalK k X Y x ps cf g np io := fun X Y e1 e2 e3 e4 e5 e6 e7 =>
  ⟨f, fd, by rw [e1, e2, e3, e4, e5, e6, e7]; exact F, by rw [e4]; exact h, by rw [e3]; exact kp, by rw [e3]; exact b⟩
theorem bits_lt {z : Int} {B : Nat} (h : Builtin.Int.intBits z ≤ B) : z.natAbs < 2 ^ B := by
  by_cases e : z = 0
  · subst e; exact Nat.pow_pos (by decide)
  · have h2 : z.natAbs.log2 + 1 ≤ B := by
      have : (z == 0) = false := by simpa using e
      simpa [Builtin.Int.intBits, this] using h
    exact (Nat.log2_lt (by omega)).mp h2
theorem walk_mp {l : PySem.W.OpenLaw} {n k f : Nat} {q : Program} {loose : List Str} {XP : (Str → Option Value) → Heap → Prop} {YP : World → Heap → Prop} {d : DefRec} {K : Params → PySem.W.Frag} {cf : CF} {x : Str}
    (hn : l.most = some n) (hn2 : n ≤ sizeLine) (hdf : d.params.defaults = []) (hr : Room k callerA)
    (hY : ∀ (w : World) (h : Heap), YP w h → (K w.params).In h)
    (F : ∀ (w : World) (mg : Str → Option Value) (fa : Addr) (h : Heap), (K w.params).In h → h.Ns mainGlobals mg → mg d.name = some (.ref fa) →
      ∃ fd : FuncData, (∀ (s : Shared) (u : Value), BindsTo s fd ⟨[u], []⟩ [(x, u)]) ∧
        ∀ base : Heap, (K w.params).In base → base.Ns mainGlobals mg → FnG l.prog w (K w.params) mg base k fa fd [x] (spF (K w.params) noXR cf f 1 []))
    (hc : ∀ ns : List Int, ns.length ≤ n → (∀ z ∈ ns, Builtin.Int.intBits z ≤ 1048576) → cf f [.imm (scrD ns)] = .ok (.imm (.bool true)) []) :
    PySem.W.WalkO q loose XP YP l.row.toRowW d [] (fun f vs => PySem.call f vs) := by
  refine Att.attach_callB hn hdf fun w s₀ s₁ mg mb fa o pm cd doc a vs ns G Y ho hd hcd hmg hobj hints hlen hbits hg => ?_
  have KX := hY w _ Y
  obtain ⟨fd, hb, hF⟩ := F w mg fa _ KX G.T.g hmg
  exact end_call KX G.T.g G.T.b G.T.builtins G.T.nolimit hg hobj hints (Nat.le_trans hlen hn2) hr hF hb (fun H hO hS => sp_script hO hS (hc ns hlen hbits)) fun H e s' z => by
    obtain ⟨a, B, H', cls, d, _, _, _, _, _, _, _, z⟩ := z
    exact z
end MP
/-! MP.36: *e in a display, where e is only read -/
namespace MP
open PySem PySem.Spec PyProof.Rows L2
/-- the items of what is only read -/
def starD : LV → Option (List LV)
  | .imm (.list ds) => some (ds.map .imm)
  | .imm (.tuple ds) => some (ds.map .imm)
  | .lent (.list ds) => some (ds.map mkLent)
  | .lent (.tuple ds) => some (ds.map mkLent)
  | _ => none
def starI (bb : Bool) (fa : EvF) (fb : LS → Res (List LV × LS)) : LS → Res (List LV × LS) := fun s => (fa s).bind fun p => if bb = true ∧ p.1.nl = false then .stuck else match starD p.1 with
  | some xs => (fb p.2).bind fun q => .ok (xs ++ q.1, q.2)
  | none => .stuck
section
variable {K : PySem.W.Frag} {H : Hp} {m : List Addr} {F : Addr → Prop}
theorem rds_imm : ∀ {vs : List V} {ds : List PyData} {as : List Addr}, RDs K H vs ds as → (∀ a ∈ as, F a) → Rps K H m F vs (ds.map .imm) []
  | _, _, _, .nil, _ => .nil
  | _, _, _, .cons r t, f => Rps.cons (O := []) (.imm r fun a z => f a (List.mem_append_left _ z)) (rds_imm t fun a z => f a (List.mem_append_right _ z))
theorem rds_lent : ∀ {vs : List V} {ds : List PyData} {as : List Addr}, RDs K H vs ds as → Rps K H m F vs (ds.map mkLent) []
  | _, _, _, .nil => .nil
  | _, d :: _, _, .cons r t => by
    refine Rps.cons (O := []) ?_ (rds_lent t)
    unfold mkLent
    split
    · rename_i h
      exact .imm r fun a z => by rw [RD.im r h] at z; cases z
    · exact .lent r
theorem starD_nl {x : LV} {xs : List LV} (h : starD x = some xs) (n : x.nl = true) : LV.nls xs = true := by
  unfold starD at h
  split at h
  · cases h; exact nls_imms _
  · cases h; exact nls_imms _
  · cases n
  · cases n
  · cases h
theorem starD_rp {v : V} {x : LV} {O : List Addr} {xs : List LV} (r : Rp K H m F v x O) (h : starD x = some xs) : O = [] ∧ ∃ p us, v = V.ref p ∧ (SqT K H p us ∨ SqL K H p us) ∧ Rps K H m F us xs [] := by
  unfold starD at h
  split at h
  · cases h
    cases r with
    | imm r f =>
      cases r with
      | lst e q => exact ⟨rfl, _, _, rfl, .inr (.inl (.inl e)), rds_imm q fun a z => f a (List.mem_cons_of_mem _ z)⟩
  · cases h
    cases r with
    | imm r f =>
      cases r with
      | tup e q => exact ⟨rfl, _, _, rfl, .inl e.sqt, rds_imm q f⟩
  · cases h
    cases r with
    | lent r =>
      cases r with
      | lst e q => exact ⟨rfl, _, _, rfl, .inr (.inl (.inl e)), rds_lent q⟩
  · cases h
    cases r with
    | lent r =>
      cases r with
      | tup e q => exact ⟨rfl, _, _, rfl, .inl e.sqt, rds_lent q⟩
  · cases h
end
section
variable {Y : Yx} {X : Cx} {ea : Expr} {es : List Expr} {ba bb b : Bool} {fa : EvF} {gb : LS → Res (List LV × LS)} {p : Pos}
theorem star_conv {vs : L2.St} {H : Hp} {Q : List V → Hp → Prop} (h : tG Y (ba || bb) (relVs Y) (starI bb fa gb) vs H Q) : StX.tStar Y.K (tG Y ba (relV Y) fa) (tG Y bb (relVs Y) gb) vs H Q := by
  obtain ⟨s, R, m, A, B, l, n, h⟩ := h
  refine ⟨s, R, m, A, B, l, fun e => n (by rw [e]; rfl), h.split (fun e => by cases ba <;> simp_all) fun p hp h1 y H1 m1 A1 B1 P x1 r1 => ?_⟩
  by_cases hc : bb = true ∧ p.1.nl = false
  · rw [if_pos hc] at h1; exact h1.elim
  rw [if_neg hc] at h1
  cases e : starD p.1 with
  | none => simp only [e] at h1; exact h1.elim
  | some xs =>
    simp only [e] at h1
    obtain ⟨rfl, a, us, rfl, hs, r1'⟩ := starD_rp r1 e
    refine ⟨a, us, rfl, hs, p.2, Rv R [], m1, A1, B1, x1.li, fun e => x1.nl (n (by rw [e]; cases ba <;> rfl)), h1.next x1 (fun e => by cases ba <;> cases bb <;> simp_all) fun q hq h2 z H2 m2 A2 B2 P2 x2 r2 => ?_⟩
    have r1'' := x1.keeps r1' x2 (by
      cases e2 : bb with
      | false => exact .inl rfl
      | true =>
        right
        refine starD_nl e ?_
        cases e3 : p.1.nl with
        | true => rfl
        | false => exact absurd ⟨e2, e3⟩ hc)
    exact h2 (us ++ z) H2 m2 A2 B2 ([] ++ P2) (x1.seq x2) (Rps.app r1'' (r2.fz Fz_rv))
theorem a_star (ha : SE Y X ba fa ea) (hb : SA Y X bb gb es) (hs : starEach (.Starred ea p :: es) X.env = (true, eval ea X.env) :: starEach es X.env := by rfl) (hf : (ba || bb) = b := by rfl) (hK : X.K = Y.K := by rfl) : SA Y X b (starI bb fa gb) (.Starred ea p :: es) := by
  subst hf
  exact PAw (StX.pa_star ha hb hs) fun vs H Q h => by rw [hK]; exact star_conv h
end
theorem ev_star {s s1 s2 : LS} {fa : EvF} {gb : LS → Res (List LV × LS)} {x : LV} {xs ys : List LV} {bb : Bool} (ha : fa s = .ok (x, s1)) (hd : starD x = some xs) (hb : gb s1 = .ok (ys, s2)) (hn : bb = true → x.nl = true) : starI bb fa gb s = .ok (xs ++ ys, s2) := by
  have hn : ¬ (bb = true ∧ x.nl = false) := fun q => by rw [hn q.1] at q; exact nomatch q.2
  simp only [starI, ha, Res.bind, if_neg hn, hd, hb]
end MP
/-! MP.37: enumerate and zip over lists and tuples -/
namespace MP
open PySem PySem.Spec PyProof.Rows L2
section
variable {Y : Yx} {X : Cx} {ea eb : Expr} {fA : LS → Res (List LV × LS)} {b : Bool} {pos : Pos}
theorem i_enumA {k : Nat} (c : Cc k X Y) {p tpos : Pos} {elts : List Expr} {kk : Nat} (hm : X.mg "enumerate" = none) (h : SA Y X b fA [ea]) (hg : Gl X "enumerate" := by rfl) (hs : starEach [ea] X.env = [(false, eval ea X.env)] := by rfl) : SI Y X b (itEA fA) (.Tuple elts kk tpos) (.Call (.Name "enumerate" p) [ea] [] pos) :=
  si_enumA c.hK hg hm h hs
theorem i_zipA {k : Nat} (c : Cc k X Y) {p tpos : Pos} {elts : List Expr} {kk : Nat} (hm : X.mg "zip" = none) (h : SA Y X b fA [ea, eb]) (hg : Gl X "zip" := by rfl) (hs : starEach [ea, eb] X.env = (false, eval ea X.env) :: starEach [eb] X.env := by rfl) (hpl : (backTo pos (starEach [eb] X.env)).any (·.1) = false := by rfl) : SI Y X b (itZA fA) (.Tuple elts kk tpos) (.Call (.Name "zip" p) [ea, eb] [] pos) :=
  si_zipA c.hK hg hm h hs hpl
theorem ev_itEA {s s1 : LS} {x : LV} {d : PyData} {ds : List PyData} (ha : fA s = .ok ([x], s1)) (hd : x.dat s1.ob = some d) (hi : itemsD d = some ds) : itEA fA s = .ok (((enumD 0 ds).map (mkImm (lhs [x])), lhs [x]), s1) := by
  simp only [itEA, ha, Res.bind, datsOf, hd, hi]
theorem ev_itZA {s s1 : LS} {x y : LV} {d e : PyData} {ds es : List PyData} (ha : fA s = .ok ([x, y], s1)) (hd : x.dat s1.ob = some d) (he : y.dat s1.ob = some e) (hi : itemsD d = some ds) (hj : itemsD e = some es) : itZA fA s = .ok (((zipD ds es).map (mkImm (lhs [x, y])), lhs [x, y]), s1) := by
  simp only [itZA, ha, Res.bind, datsOf, hd, he, hi, hj]
end
end MP
/-! MP.38: a call by keywords in any order, the values being names -/
namespace MP
open PySem PySem.Spec PyProof.Rows L2
def namesC : List Nat → LS → Res (List AV × LS)
  | [] => nilC
  | i :: is => consC false (varE i) (namesC is)
/-- the values of the names -/
inductive NV (vs : L2.St) : List Nat → List V → Prop
  | nil : NV vs [] []
  | cons {i : Nat} {is : List Nat} {v : V} {ys : List V} : vs[i]? = some (some v) → NV vs is ys → NV vs (i :: is) (v :: ys)
theorem NV.at {vs : L2.St} : ∀ {is : List Nat} {ys : List V}, NV vs is ys → ∀ {n i : Nat}, is[n]? = some i → ∃ v, ys[n]? = some v ∧ vs[i]? = some (some v)
  | _, _, .nil, n, i, e => by simp at e
  | _, _, .cons (v := v) h t, 0, i, e => by simp at e; subst e; exact ⟨v, rfl, h⟩
  | _, _, .cons h t, n + 1, i, e => by simp at e; simpa using t.at e
theorem NV.len {vs : L2.St} : ∀ {is : List Nat} {ys : List V}, NV vs is ys → is.length = ys.length
  | _, _, .nil => rfl
  | _, _, .cons _ t => by simp [t.len]
theorem NV.sub {vs : L2.St} : ∀ (is : List Nat), (∀ i ∈ is, ∃ v, vs[i]? = some (some v)) → ∃ ys, NV vs is ys
  | [], _ => ⟨[], .nil⟩
  | i :: is, h => by
    obtain ⟨v, hv⟩ := h i List.mem_cons_self
    obtain ⟨ys, hy⟩ := NV.sub is fun j hj => h j (List.mem_cons_of_mem _ hj)
    exact ⟨_, .cons hv hy⟩
section
variable {k : Nat} {X : Cx} {Y : Yx} {b : Bool} {pos : Pos}
theorem var_tv {i : Nat} {vs : L2.St} {H : Hp} {Q : VK} (h : tG Y false (relV Y) (varE i) vs H Q) : ∃ v, vs[i]? = some (some v) ∧ Q v H := by
  obtain ⟨s, R, m, A, B, l, n, h⟩ := h
  unfold varE at h
  split at h
  · rename_i x hx
    obtain ⟨u, P, e1, r, _⟩ := l.sl.get hx
    split at h
    · rename_i y hy
      refine ⟨u, e1, h u H m A B [] (Stp.refl l) ?_⟩
      rw [List.append_nil]
      exact readV_rp r l.ob hy
    · exact h.elim
  · exact h.elim
theorem names_tv : ∀ {is : List Nat} {vs : L2.St} {H : Hp} {Q : List V → Hp → Prop}, tA Y false (is.map fun _ => none) (namesC is) vs H Q → ∃ ys, NV vs is ys ∧ Q ys H
  | [], vs, H, Q, h => by
    obtain ⟨s, R, m, A, B, l, n, h⟩ := h
    exact ⟨[], .nil, h [] H m A B [] (Stp.refl l) ⟨.nil, rfl, fun _ => rfl⟩⟩
  | i :: is, vs, H, Q, h => by
    have q : tCons (tG Y false (relV Y) (varE i)) (tA Y false (is.map fun _ => none) (namesC is)) vs H Q := scc_conv (ba := false) (bb := false) h
    obtain ⟨v, e, q⟩ := var_tv q
    obtain ⟨ys, n, q⟩ := names_tv q
    exact ⟨_, .cons e n, q⟩
/-- keywords whose values are names -/
abbrev KN (X : Cx) (js : List Nat) (kws : List Keyword) : Prop := PK X kws fun σ H Q => ∃ ys, NV σ js ys ∧ Q ys H
theorem kn_nil : KN X [] [] := PKw pk_nil fun vs H Q h => by
  obtain ⟨ys, n, q⟩ := h
  cases n
  exact q
theorem kn_cons (i : Nat) {js : List Nat} {kws : List Keyword} {x : Str} {nm : Option Str} {kpos : Pos} (t : KN X js kws) (hN : X.N[i]? = some x := by rfl) (hv : Vis X.env.scope x := by first | exact Or.inl rfl | exact Or.inr (Or.inl rfl) | exact Or.inr (Or.inr rfl)) (hd : (x == ("__debug__" : Str)) = false := by decide) (hcd : (x == ("__classdict__" : Str)) = false := by decide) : KN X (i :: js) (⟨nm, .Name x pos, kpos⟩ :: kws) :=
  PKw (pk_cons (pe_var hN hv hd hcd) t) fun vs H Q h => by
    obtain ⟨ys, n, q⟩ := h
    cases n with
    | cons e n => exact ⟨_, e, _, n, q⟩
/-- the values in the parameters' order -/
def permA {α : Type} (pm : List Nat) (xs : List α) : List α := pm.filterMap fun i => xs[i]?
/-- how a def binds keywords that name all parameters, in any order -/
structure CalP (k : Nat) (X : Cx) (Y : Yx) (x : Str) (ks : List Str) (pm : List Nat) (cf : CF) (g np : Nat) : Prop where
  ex : ∃ (f : Addr) (fd : FuncData) (ps : List Str), FnG X.prog X.w X.K X.mg X.base k f fd ps (spF Y.K Y.XR cf g np []) ∧ X.mg x = some (.ref f) ∧ PySem.W.keepIn X.K (.ref f) = true ∧ ∀ (s : Shared) (ws : List Value), X.K.In s.heap → ws.length = ks.length → BindsTo s fd ⟨[], ks.zip ws⟩ (ps.zip (permA pm ws))
theorem CalP.blk {x : Str} {ks : List Str} {pm : List Nat} {cf : CF} {g np : Nat} (F : CalP k X Y x ks pm cf g np) (s : Shared) (H : Hp) (scope : Scope) (cenv : Env) (fp : List Addr) : CalP k (X.blk s H scope cenv fp) Y.b x ks pm cf g np := ⟨F.ex⟩
theorem perm_vals {vs : L2.St} {js : List Nat} {zs : List V} {us : List Value} (n : NV vs js zs) (r : Vals zs us) : ∀ {pm is : List Nat} {ys : List V}, (∀ i ∈ pm, i < js.length) → is = permA pm js → NV vs is ys → Vals ys (permA pm us)
  | [], is, ys, _, e, h => by
    subst e
    cases h
    exact .nil
  | i :: pm, is, ys, hl, e, h => by
    obtain ⟨j, hj⟩ : ∃ j, js[i]? = some j := ⟨_, List.getElem?_eq_getElem (hl i List.mem_cons_self)⟩
    obtain ⟨v, hv, ev⟩ := n.at hj
    obtain ⟨u, hu, ru⟩ := r.get hv
    have e : is = j :: permA pm js := by rw [e]; simp [permA, hj]
    subst e
    cases h with
    | cons e2 t =>
      rw [ev] at e2
      cases e2
      have : permA (i :: pm) us = u :: permA pm us := by simp [permA, hu]
      rw [this]
      exact .cons ru (perm_vals n r (fun a ha => hl a (List.mem_cons_of_mem _ ha)) rfl t)
theorem e_callP {x : Str} {ks : List Str} {pm is js : List Nat} {p : Pos} {cf : CF} {g np : Nat} {kws : List Keyword} (c : Cc k X Y) (F : CalP k X Y x ks pm cf g np) (ha : KN X js kws) (his : is = permA pm js := by rfl) (hpm : ∀ i ∈ pm, i < js.length := by decide) (hjs : ∀ j ∈ js, j ∈ is := by decide) (hnp : is.length = np := by rfl) (hlk : js.length = ks.length := by rfl) (hg : Gl X x := by rfl) (hdb : (x == ("__debug__" : Str)) = false := by decide)
    (hall : (backToKw pos (keywordEach kws X.env)).all (·.1.isSome) = true := by rfl) (hks : (backToKw pos (keywordEach kws X.env)).filterMap (·.1) = ks := by rfl) (hpl : ((backTo pos (starEach [] X.env)).any (·.1) || (backToKw pos (keywordEach kws X.env)).any (·.1.isNone)) = false := by rfl) :
    SE Y X false (callEE cf g (namesC is)) (.Call (.Name x p) [] kws pos) := by
  subst hnp
  obtain ⟨f, fd, ps, h1, h2, h3, h4⟩ := F.ex
  refine ⟨fun pins s σ H Q I h => ?_⟩
  have io0 : ioOf 0 (is.map fun _ => (none : Option Nat)) = [] := by
    have : ∀ (l : List Nat) (n : Nat), ioOf n (l.map fun _ => (none : Option Nat)) = [] := fun l => by
      induction l with
      | nil => intro n; rfl
      | cons a l ih => intro n; simp only [List.map_cons, ioOf]; exact ih _
    exact this is 0
  obtain ⟨ys, ny, q0⟩ := names_tv (call_conv io0 (by rw [List.length_map]) h)
  refine wpAny_Call_Name_kw (ld_glob I hg h2 ?_ hdb)
  have hz : ∃ zs, NV σ js zs := NV.sub js fun j hj => by
    obtain ⟨n, hn, e⟩ := List.mem_iff_getElem.mp (hjs j hj)
    obtain ⟨v, _, ev⟩ := ny.at (by rw [List.getElem?_eq_getElem hn, e])
    exact ⟨v, ev⟩
  obtain ⟨zs, nz⟩ := hz
  refine PySem.W.callWith_KW0 (h₀ := X.base) I.ok.mod.kin h3 hall (thn (ha.run pos pins s σ H (fun a H1 => a = zs ∧ H1 = H) I ⟨zs, nz, rfl, rfl⟩) fun us s1 ⟨vs, H1, I1, r, e1, e2⟩ => ⟨I1.kIn, ?_⟩) hpl
  subst e1 e2
  rw [hks]
  have hl : us.length = ks.length := by rw [← r.length, ← nz.len, hlk]
  have r2 := perm_vals nz r hpm his ny
  refine wpAny_call (codeAny_mono (run_fnG h1 c.room c.gd c.tk I1 (h4 s1 us I1.kIn hl) r2 q0) fun r s' hq => ?_)
  cases r with
  | error e => exact hq
  | ok fl => cases fl <;> exact hq
theorem calP_mk {Pr : Program} {w : World} {K : PySem.W.Frag} {mg : Str → Option Value} {base : Heap} {XR : (Addr → Prop) → Hp → Nat → List PyData → Value → Option Addr → Prop} {g np : Nat} {x : Str} {cf : CF} {f : Addr} {fd : FuncData} {ps ks : List Str} {pm : List Nat}
    (F : FnG Pr w K mg base k f fd ps (spF K XR cf g np [])) (h : mg x = some (.ref f)) (kp : PySem.W.keepIn K (.ref f) = true) (b : ∀ (s : Shared) (ws : List Value), K.In s.heap → ws.length = ks.length → BindsTo s fd ⟨[], ks.zip ws⟩ (ps.zip (permA pm ws))) :
    ∀ (X : Cx) (Y : Yx), X.prog = Pr → X.w = w → X.K = K → X.mg = mg → X.base = base → Y.K = K → Y.XR = XR → CalP k X Y x ks pm cf g np := fun X Y e1 e2 e3 e4 e5 e6 e7 =>
  ⟨f, fd, ps, by rw [e1, e2, e3, e4, e5, e6, e7]; exact F, by rw [e4]; exact h, by rw [e3]; exact kp, by rw [e3]; exact b⟩
end
end MP
/-! MP.39: place of a number in a list of numbers (list.index) -/
namespace MP
open PySem PySem.Spec PyProof.Rows L2
/-- the items of a list or tuple that is only read -/
def rdL : LV → Option (List PyData)
  | .imm (.list ds) => some ds
  | .lent (.list ds) => some ds
  | .imm (.tuple ds) => some ds
  | .lent (.tuple ds) => some ds
  | _ => none
def idxE (bb : Bool) (fo : EvF) (gA : LS → Res (List LV × LS)) : EvF := fun s => (fo s).bind fun p => if bb = true ∧ p.1.nl = false then .stuck else match rdL p.1 with
  | none => .stuck
  | some ds => (gA p.2).bind fun q => match q.1, asInts ds with
    | [.imm (.int k)], some ns => if k ∈ ns then .ok (.imm (.int (ns.idxOf k)), q.2) else .stuck
    | _, _ => .stuck
section
variable {K : PySem.W.Frag} {H : Hp} {m : List Addr} {F : Addr → Prop}
/-- a list (false) or a tuple (true), its object without a dict -/
def SqBN (K : PySem.W.Frag) (H : Hp) (a : Addr) (xs : List V) : Bool → Prop
  | false => SqL K H a xs
  | true => SqN K H a xs
theorem SqBN.sq {a : Addr} {xs : List V} : ∀ {t : Bool}, SqBN K H a xs t → SqB K H a xs t
  | false, h => h
  | true, h => h.sqt
def tagL : LV → Bool
  | .imm (.tuple _) => true
  | .lent (.tuple _) => true
  | _ => false
theorem rdL_rp {v : V} {x : LV} {O : List Addr} {ds : List PyData} (r : Rp K H m F v x O) (h : rdL x = some ds) : ∃ a us as, v = .ref a ∧ SqBN K H a us (tagL x) ∧ RDs K H us ds as := by
  unfold rdL at h
  split at h
  · cases h
    cases r with
    | imm r f =>
      cases r with
      | lst e q => exact ⟨_, _, _, rfl, .inl (.inl e), q⟩
  · cases h
    cases r with
    | lent r =>
      cases r with
      | lst e q => exact ⟨_, _, _, rfl, .inl (.inl e), q⟩
  · cases h
    cases r with
    | imm r f =>
      cases r with
      | tup e q => exact ⟨_, _, _, rfl, e, q⟩
  · cases h
    cases r with
    | lent r =>
      cases r with
      | tup e q => exact ⟨_, _, _, rfl, e, q⟩
  · cases h
theorem rds_ints : ∀ {ds : List PyData} {us : List V} {as : List Addr} {ns : List Int}, RDs K H us ds as → asInts ds = some ns → us = ns.map V.int
  | [], _, _, _, .nil, e => by cases e; rfl
  | d :: ds, _, _, _, .cons r t, e => by
    cases r with
    | int i =>
      obtain ⟨ms, e1, rfl⟩ := Option.map_eq_some_iff.mp (show (asInts ds).map (i :: ·) = some _ from e)
      rw [rds_ints t e1]; rfl
    | _ => cases e
end
def nmB : Bool → String × String
  | false => ("list", "list.index")
  | true => ("tuple", "tuple.index")
def tIdx (K : PySem.W.Frag) (to : TE) (t : TA) : TE := fun σ H Q => to σ H fun x H1 => ∃ b a us, x = .ref a ∧ SqBN K H1 a us b ∧ t σ H1 fun xs H2 => ∃ (ns : List Int) (k : Int), SqB K H2 a (ns.map V.int) b ∧ xs = [.int k] ∧ k ∈ ns ∧ Q (.int (ns.idxOf k : Nat)) H2
theorem intsOf : ∀ {ns : List Int} {us : List Value}, Vals (ns.map V.int) us → IntsAre us ns
  | [], _, .nil => .nil
  | n :: ns, _, .cons r t => by
    obtain ⟨k, rfl⟩ := r
    exact .cons n k (intsOf t)
theorem SqBN.meth {X : Cx} {pins : List (Addr × Obj)} {σ : L2.St} {H : Hp} {s : Shared} {a : Addr} {us : List V} (I : Inv X pins σ H s) : ∀ {b : Bool}, SqBN X.K H a us b → s.TypeIs (.ref a) (nmB b).1 ∧ ∀ c, Value.ref a = .ref c → ∃ ob, s.heap.get? c = some ob ∧ ob.dict = none
  | false, h => by
    obtain ⟨its, _, pl, _⟩ := I.list h
    refine ⟨pl.isList.typeIs, fun c e => ?_⟩
    cases e
    obtain ⟨o, n, e, c, hd, _⟩ := pl
    exact ⟨o, e, hd⟩
  | true, h => by
    rcases h with ⟨o, h, hd⟩ | ⟨o, its, n, hk, hc, hd, _⟩
    · obtain ⟨ho, _, its, _, ⟨o', ho', hc, _⟩⟩ := I.hok _ _ h
      rw [ho] at ho'
      cases ho'
      exact ⟨⟨o, ho, hc⟩, fun c e => by cases e; exact ⟨o, ho, hd.1⟩⟩
    · exact ⟨⟨o, I.kIn _ o hk, hc⟩, fun c e => by cases e; exact ⟨o, I.kIn _ o hk, hd.1⟩⟩
section
variable {X : Cx} {o e : Expr} {es : List Expr} {to : TE} {t : TA} {apos cpos : Pos}
theorem pe_idx (ho : PE X o to) (ha : PA X (e :: es) t)
    (hbase : attributeBase o "index" X.env (eval o X.env) = eval o X.env)
    (hfew : ((backTo cpos (starEach (e :: es) X.env)).all (fun x => !x.1) && (backToKw cpos (keywordEach [] X.env)).all (fun x => x.1.isSome)
      && decide ((e :: es).length + ([] : List Keyword).length + (if ([] : List Keyword).isEmpty then 0 else 1) < 30)) = true)
    (hline : (apos.endLine == cpos.line) = true) (hs : starEach (e :: es) X.env = (false, eval e X.env) :: starEach es X.env) (hplain : (backTo cpos (starEach es X.env)).any (·.1) = false) :
    PE X (.Call (.Attribute o "index" apos) (e :: es) [] cpos) (tIdx X.K to t) := by
  refine ⟨fun pins s σ H Q I h => ?_⟩
  refine wpAny_Call_method_late hbase hfew hline rfl (thn (ho.run pins s σ H _ I h) fun v s1 ⟨x, H1, I1, r1, b, a, us, ex, ty, q1⟩ => ?_)
  subst ex
  cases r1
  obtain ⟨h1, h2⟩ := ty.meth I1
  have fin : ∀ (us' : List Value) (s2 : Shared), AP X pins σ (fun xs H2 => ∃ (ns : List Int) (k : Int), SqB X.K H2 a (ns.map V.int) b ∧ xs = [.int k] ∧ k ∈ ns ∧ Q (.int (ns.idxOf k : Nat)) H2) us' s2 → wpAny (model X.prog X.w) X.A (call (.builtin (nmB b).2) (.ref a :: us')) (EP X pins σ Q) X.xe s2 := by
    intro us' s2 ⟨vs, H2, I2, r2, ns, k, hq, ev, hk, q2⟩
    subst ev
    cases r2 with
    | cons r rr =>
      cases rr
      obtain ⟨tk, rfl⟩ := r
      obtain ⟨its, rv, p, hz⟩ := hq.ok I2
      have hl := rv.length
      have hz' : ns.length ≤ sizeLine := by rw [List.length_map] at hz; exact hz
      cases b with
      | false => exact SeqAt.list_index_ints p (intsOf rv) hz' hk ⟨.int _, H2, I2.tok _, ⟨_, rfl⟩, q2⟩
      | true => exact SeqAt.tuple_index_ints p (intsOf rv) hk ⟨.int _, H2, I2.tok _, ⟨_, rfl⟩, q2⟩
  have hA := ha.run cpos pins s1 σ H1 _ I1 q1
  rw [hs] at hA ⊢
  cases b with
  | false =>
    refine ⟨"list", "list.index", PySem.F.plainAttrs_list, PySem.F.slot_list_index, PySem.F.type_list_index, h1, h2, ?_⟩
    refine Calls.callWith_builtin (by show (false || (backTo cpos (starEach es X.env)).any (·.1)) = false; rw [hplain] <;> rfl) (Calls.evalArgs_plain ?_)
    exact thn hA fin
  | true =>
    refine ⟨"tuple", "tuple.index", PySem.F.plainAttrs_tuple, PySem.F.slot_tuple_index, PySem.F.type_tuple_index, h1, h2, ?_⟩
    refine Calls.callWith_builtin (by show (false || (backTo cpos (starEach es X.env)).any (·.1)) = false; rw [hplain] <;> rfl) (Calls.evalArgs_plain ?_)
    exact thn hA fin
end
section
variable {k : Nat} {X : Cx} {Y : Yx} {ba bb b : Bool} {fo : EvF} {gA : LS → Res (List LV × LS)} {eo ea : Expr}
theorem idx_conv {vs : L2.St} {H : Hp} {Q : VK} (h : tG Y (ba || bb) (relV Y) (idxE bb fo gA) vs H Q) : tIdx Y.K (tG Y ba (relV Y) fo) (tG Y bb (relVs Y) gA) vs H Q := by
  obtain ⟨s, R, m, A, B, l, n, h⟩ := h
  refine ⟨s, R, m, A, B, l, fun e => n (by rw [e]; rfl), h.split (fun e => by cases ba <;> simp_all) fun p hp h1 y H1 m1 A1 B1 P x1 r1 => ?_⟩
  by_cases hc : bb = true ∧ p.1.nl = false
  · rw [if_pos hc] at h1; exact h1.elim
  rw [if_neg hc] at h1
  cases e : rdL p.1 with
  | none => simp only [e] at h1; exact h1.elim
  | some ds =>
    simp only [e] at h1
    obtain ⟨a, us, as, rfl, ha, hr⟩ := rdL_rp r1 e
    refine ⟨tagL p.1, a, us, rfl, ha, p.2, Rv R P, m1, A1, B1, x1.li, fun e => x1.nl (n (by rw [e]; cases ba <;> rfl)), h1.next x1 (fun e => by cases ba <;> cases bb <;> simp_all) fun q hq h2 z H2 m2 A2 B2 P2 x2 r2 => ?_⟩
    have r1' := x1.keep r1 x2 (by
      cases e2 : bb with
      | false => exact .inl rfl
      | true =>
        right
        cases e3 : p.1.nl with
        | true => rfl
        | false => exact absurd ⟨e2, e3⟩ hc)
    obtain ⟨a', us', as', ea', ha', hr'⟩ := rdL_rp r1' e
    cases ea'
    split at h2
    · rename_i k ns e5 e6
      by_cases hk : k ∈ ns
      · rw [if_pos hk] at h2
        rw [e5] at r2
        cases r2 with
        | cons r t =>
          cases t
          cases r with
          | imm r f =>
            cases r
            obtain rfl := rds_ints hr' e6
            exact ⟨ns, k, ha'.sq, rfl, hk, h2 (.int (ns.idxOf k : Nat)) H2 m2 A2 B2 [] (x1.seq x2).drop (.imm (.int _) fun _ z => nomatch z)⟩
      · rw [if_neg hk] at h2; exact h2.elim
    · exact h2.elim
theorem e_index {apos cpos : Pos} (c : Cc k X Y) (ho : SE Y X ba fo eo) (ha : SA Y X bb gA [ea]) (hf : (ba || bb) = b := by rfl) (hbase : attributeBase eo "index" X.env (eval eo X.env) = eval eo X.env := by rfl)
    (hfew : ((backTo cpos (starEach [ea] X.env)).all (fun x => !x.1) && (backToKw cpos (keywordEach [] X.env)).all (fun x => x.1.isSome) && decide ([ea].length + ([] : List Keyword).length + (if ([] : List Keyword).isEmpty then 0 else 1) < 30)) = true := by rfl)
    (hline : (apos.endLine == cpos.line) = true := by rfl) (hs : starEach [ea] X.env = (false, eval ea X.env) :: starEach [] X.env := by rfl) (hplain : (backTo cpos (starEach [] X.env)).any (·.1) = false := by rfl) :
    SE Y X b (idxE bb fo gA) (.Call (.Attribute eo "index" apos) [ea] [] cpos) := by
  subst hf
  exact PEw (pe_idx ho ha hbase hfew hline hs hplain) fun vs H Q h => by rw [c.hK]; exact idx_conv h
end
theorem ev_idx {s s1 s2 : LS} {bb : Bool} {fo : EvF} {gA : LS → Res (List LV × LS)} {x : LV} {ds : List PyData} {ns : List Int} {k : Int} (ho : fo s = .ok (x, s1)) (hn : bb = true → x.nl = true) (hd : rdL x = some ds) (ha : gA s1 = .ok ([.imm (.int k)], s2)) (hi : asInts ds = some ns) (hk : k ∈ ns) : idxE bb fo gA s = .ok (.imm (.int (ns.idxOf k)), s2) := by
  have hn : ¬ (bb = true ∧ x.nl = false) := fun q => by rw [hn q.1] at q; exact nomatch q.2
  simp only [idxE, ho, Res.bind, if_neg hn, hd, ha, hi, if_pos hk]
end MP
/-! MP.40: isinstance by a built-in class's name; not as a value; code that is never reached -/
namespace MP
open PySem PySem.Spec PyProof.Rows L2
/-- what is never reached -/
def noS : LS → SR := fun _ => .stuck
def noE : EvF := fun _ => .stuck
def isaD (p : PyData → Bool) : List PyData → Option RK
  | [d] => if sc d then some (.dat (.bool (p d))) else none
  | _ => none
section
variable {k : Nat} {X : Cx} {Y : Yx} {b : Bool} {fa : EvF} {ea : Expr} {pos : Pos} {io : List Nat}
theorem call_isa {T : String} {p : PyData → Bool} (hT : ∀ {prog : Program} {w : World} {A : Around} {E : Value → Shared → Prop} {s : Shared} {v : Value} {d : PyData} {as : List Addr} {Q : Value → Shared → Prop}, Reads s.heap v d as → (∀ tk, s.toks ≤ tk → Q (.bool (p d)) { s with toks := tk }) → wpAny (model prog w) A (call (.builtin "isinstance") [v, .type T]) Q E s) :
    CallR X (.builtin "isinstance") (fun xs H Q => ∃ v, xs = [v, .ty T] ∧ CallN X.K (isaD p) [v] H Q) := by
  intro pins s σ H xs us Q I r h
  obtain ⟨v, rfl, ds, as, rk, rd, e, q⟩ := h
  cases r with
  | cons r1 t =>
    cases t with
    | cons r2 t =>
      cases t
      obtain rfl := r2
      cases rd with
      | cons rd t =>
        cases t
        simp only [isaD] at e
        split at e
        · rename_i hs
          cases e
          obtain ⟨bs, rr⟩ := rd.reads I hs r1
          refine hT rr fun tk _ => ⟨.bl _, H, I.tok tk, rfl, q _ _ Pres.refl (RKrep.same (.bl _) fun _ z => nomatch z)⟩
        · cases e
theorem se_isa {T : String} {x : Str} {p : PyData → Bool} (hK : X.K = Y.K) (hc : CallR X (.builtin "isinstance") (fun xs H Q => ∃ v, xs = [v, .ty T] ∧ CallN X.K (isaD p) [v] H Q)) (hg : Gl X "isinstance") (hm : X.mg "isinstance" = none) (hgx : Gl X x) (hmx : X.mg x = none) (hv : bootBuiltins x = some (.type T)) (hn : x ≠ "__name__") (hd : (x == ("__debug__" : Str)) = false) {p1 p2 : Pos}
    (he : SE Y X b fa ea) (hs1 : starEach [ea, .Name x p2] X.env = (false, eval ea X.env) :: starEach [.Name x p2] X.env) (hpl : (backTo pos (starEach [.Name x p2] X.env)).any (·.1) = false) :
    SE Y X b (biE (isaD p) (consA false fa nilA)) (.Call (.Name "isinstance" p1) [ea, .Name x p2] [] pos) :=
  PEw (pe_callB hc hg hm PyProof.Rows.boot_isinstance (pa_cons he (pa_cons (pe_bltn hgx hmx hv (v := .ty T) rfl hn hd) pa_nil) hs1) (by decide) (by decide) hs1 hpl) fun vs H Q h => by
    have q := bi_conv h
    have q2 : tCons (tG Y b (relV Y) fa) (tG Y false (relVs Y) nilA) vs H _ := cons_conv (ba := b) (bb := false) (by rw [Bool.or_false]; exact q)
    obtain ⟨s, R, m, A, B, l, n, h2⟩ := q2
    refine ⟨s, R, m, A, B, l, n, ?_⟩
    cases e : fa s with
    | ok p' =>
      rw [e] at h2
      intro y H' m' A' B' Ov x r
      obtain ⟨s', R', m'', A'', B'', l', n', h3⟩ := h2 y H' m' A' B' Ov x r
      exact ⟨y, rfl, by rw [hK]; exact h3 [] H' m'' A'' B'' [] (Stp.refl l') .nil⟩
    | exc c ps s' => rw [e] at h2; exact h2
    | stuck => rw [e] at h2; exact h2
theorem e_isa_tuple (c : Cc k X Y) (hm : X.mg "isinstance" = none) (hmx : X.mg "tuple" = none) {p1 p2 : Pos} (he : SE Y X b fa ea) (hg : Gl X "isinstance" := by rfl) (hgx : Gl X "tuple" := by rfl) (hs1 : starEach [ea, .Name "tuple" p2] X.env = (false, eval ea X.env) :: starEach [.Name "tuple" p2] X.env := by rfl) (hpl : (backTo pos (starEach [.Name "tuple" p2] X.env)).any (·.1) = false := by rfl) :
    SE Y X b (biE (isaD PyData.isTuple) (consA false fa nilA)) (.Call (.Name "isinstance" p1) [ea, .Name "tuple" p2] [] pos) := se_isa c.hK (call_isa fun r h => PySem.W.isinstance_tuple_data r h) hg hm hgx hmx boot_tuple (by decide) (by decide) he hs1 hpl
theorem e_isa_int (c : Cc k X Y) (hm : X.mg "isinstance" = none) (hmx : X.mg "int" = none) {p1 p2 : Pos} (he : SE Y X b fa ea) (hg : Gl X "isinstance" := by rfl) (hgx : Gl X "int" := by rfl) (hs1 : starEach [ea, .Name "int" p2] X.env = (false, eval ea X.env) :: starEach [.Name "int" p2] X.env := by rfl) (hpl : (backTo pos (starEach [.Name "int" p2] X.env)).any (·.1) = false := by rfl) :
    SE Y X b (biE (isaD PyData.isInt) (consA false fa nilA)) (.Call (.Name "isinstance" p1) [ea, .Name "int" p2] [] pos) := se_isa c.hK (call_isa fun r h => PySem.W.isinstance_int_data r h) hg hm hgx hmx boot_int (by decide) (by decide) he hs1 hpl
theorem e_isa_bool (c : Cc k X Y) (hm : X.mg "isinstance" = none) (hmx : X.mg "bool" = none) {p1 p2 : Pos} (he : SE Y X b fa ea) (hg : Gl X "isinstance" := by rfl) (hgx : Gl X "bool" := by rfl) (hs1 : starEach [ea, .Name "bool" p2] X.env = (false, eval ea X.env) :: starEach [.Name "bool" p2] X.env := by rfl) (hpl : (backTo pos (starEach [.Name "bool" p2] X.env)).any (·.1) = false := by rfl) :
    SE Y X b (biE (isaD PyData.isBool) (consA false fa nilA)) (.Call (.Name "isinstance" p1) [ea, .Name "bool" p2] [] pos) := se_isa c.hK (call_isa fun r h => PySem.W.isinstance_bool_data r h) hg hm hgx hmx boot_bool (by decide) (by decide) he hs1 hpl
theorem e_isa_str (c : Cc k X Y) (hm : X.mg "isinstance" = none) (hmx : X.mg "str" = none) {p1 p2 : Pos} (he : SE Y X b fa ea) (hg : Gl X "isinstance" := by rfl) (hgx : Gl X "str" := by rfl) (hs1 : starEach [ea, .Name "str" p2] X.env = (false, eval ea X.env) :: starEach [.Name "str" p2] X.env := by rfl) (hpl : (backTo pos (starEach [.Name "str" p2] X.env)).any (·.1) = false := by rfl) :
    SE Y X b (biE (isaD PyData.isStr) (consA false fa nilA)) (.Call (.Name "isinstance" p1) [ea, .Name "str" p2] [] pos) := se_isa c.hK (call_isa fun r h => PySem.W.isinstance_str_data r h) hg hm hgx hmx boot_str (by decide) (by decide) he hs1 hpl
theorem b_no {ss : List Stmt} : SB Y X io noS ss := by
  constructor
  intros
  rename_i h
  obtain ⟨_, _, _, _, _, _, _, h⟩ := h
  exact h.elim
theorem s_no {st : Stmt} : SS Y X io noS st := by
  constructor
  intros
  rename_i h
  obtain ⟨_, _, _, _, _, _, _, h⟩ := h
  exact h.elim
theorem x_no {e : Expr} : SE Y X b noE e := by
  constructor
  intros
  rename_i h
  obtain ⟨_, _, _, _, _, _, _, h⟩ := h
  exact h.elim
end
end MP
/-! MP.41: evaluation by rules whose results come by unification -/
namespace MP
open PySem PySem.Spec PyProof.Rows L2
section
variable {fa fb fc fp : EvF} {gA : LS → Res (List LV × LS)} {gC : LS → Res (List AV × LS)} {ga gb : LS → SR} {ft : LS → Res (Bool × LS)} {s s1 s2 s3 : LS} {x y z : LV} {xs ys : List LV} {as : List AV} {d e f : PyData} {ds es : List PyData} {b c : Bool} {R : SR}
/-- comparisons, their value as it comes -/
theorem ev_opC {g : PyData → PyData → Option RK} {v : PyData} (ha : fa s = .ok (x, s1)) (hb : fb s1 = .ok (y, s2)) (hd : x.dat s2.ob = some d) (he : y.dat s2.ob = some e) (hg : g d e = some (.dat v)) : op2E g lvC false fa fb s = .ok (.imm v, s2) :=
  ev_op ha hb hd he hg rfl nf
theorem nes {t u : Str} (h : t = u) : cmpK .NotEq (.str t) (.str u) = some (.dat (.bool false)) := by rw [show cmpK .NotEq (.str t) (.str u) = some (.dat (.bool (!decide (t = u)))) from ne_datum t u, decide_eq_true h]; rfl
theorem nei {t u : Int} (h : t = u) : cmpK .NotEq (.int t) (.int u) = some (.dat (.bool false)) := by rw [ne_int, decide_eq_true h]; rfl
theorem neit {t u : Int} (h : t ≠ u) : cmpK .NotEq (.int t) (.int u) = some (.dat (.bool true)) := by rw [ne_int, decide_eq_false h]; rfl
theorem eqit {t u : Int} (h : t = u) : cmpK .Eq (.int t) (.int u) = some (.dat (.bool true)) := by rw [eq_int, decide_eq_true h]
theorem eqif {t u : Int} (h : t ≠ u) : cmpK .Eq (.int t) (.int u) = some (.dat (.bool false)) := by rw [eq_int, decide_eq_false h]
theorem orFF (ha : fa s = .ok (.imm (.bool false), s1)) (hb : fb s1 = .ok (.imm (.bool false), s1)) : orE fa fb s = .ok (.imm (.bool false), s1) := ev_or ha fun _ => hb
theorem andTT (ha : fa s = .ok (.imm (.bool true), s1)) (hb : fb s1 = .ok (.imm (.bool true), s1)) : andE fa fb s = .ok (.imm (.bool true), s1) := ev_and ha fun _ => hb
theorem notT (ha : fa s = .ok (.imm (.bool true), s1)) : notE fa s = .ok (.imm (.bool false), s1) := ev_not ha
theorem st_ifN (h : ft s = .ok (false, s1)) : ifS ft ga nxtS s = .nxt s1 := st_if h (fun z => nomatch z) fun _ => rfl
theorem st_ifT (h : ft s = .ok (true, s1)) (ha : ga s1 = R) : ifS ft ga gb s = R := st_if h (fun _ => ha) fun z => nomatch z
theorem st_ifF (h : ft s = .ok (false, s1)) (ha : gb s1 = R) : ifS ft ga gb s = R := st_if h (fun z => nomatch z) fun _ => ha
theorem ite_same {Q : Res (LV × LS)} (hc : fc s = .ok (.imm (.bool b), s1)) (ha : fa s1 = Q) (hb : fb s1 = Q) : iteE fc fa fb s = Q := ev_ite hc (fun _ => ha) fun _ => hb
theorem ite_T {Q : Res (LV × LS)} (hc : fc s = .ok (.imm (.bool true), s1)) (ha : fa s1 = Q) : iteE fc fa fb s = Q := ev_ite hc (fun _ => ha) fun z => nomatch z
theorem ite_F {Q : Res (LV × LS)} (hc : fc s = .ok (.imm (.bool false), s1)) (ha : fb s1 = Q) : iteE fc fa fb s = Q := ev_ite hc (fun z => nomatch z) fun _ => ha
/-- a call whose first argument is a slot, the others data -/
theorem ev_callS {j : LV} {cf : CF} {f i : Nat} (ha : gC s = .ok (as, s1)) (hj : s.sl[i]? = some (some z)) (hx : argsOf s1 as = some xs) (h0 : slotsOf as = []) (hj1 : s1.sl[i]? = some (some j)) (g : j.giv = true) (hl : lhs (dataOf as) = false) (hc : cf f (j :: xs) = .ok x [y]) (hn : x.nl = true) (hy : y.nl = true) (hr : (⟨s1.sl.set i (some y), s1.ob⟩ : LS) = s2) : callEE cf f (slotC i gC) s = .ok (x, s2) :=
  ev_call2 (s1 := s1) (as := .slot i :: as) (xs := j :: xs) (ev_slotC hj ha) (argsOf_slot hj1 g hx) (by simp [slotsOf, h0]) (by simpa [dataOf] using hl) hc hn hy hr
theorem ev_callD {cf : CF} {f : Nat} {bb : Bool} (ha : consC bb fa gC s = .ok (as, s1)) (hx : argsOf s1 as = some xs) (h0 : slotsOf as = []) (hl : lhs (dataOf as) = false) (hc : cf f xs = .ok x []) (hn : x.nl = true) : callEE cf f (consC bb fa gC) s = .ok (x, s1) := ev_call0 ha hx h0 (.inl hl) hc hn
theorem ev_callN {cf : CF} {f : Nat} (hc : cf f [] = .ok x []) (hn : x.nl = true) : callEE cf f nilC s = .ok (x, s) := ev_call0 ev_nilC argsOf_nil rfl (.inl rfl) hc hn
/-- a comprehension over data, one clause -/
theorem lcT {α : Type} (as : List α) (f e : α → PyData) {own : List Nat} {t : Tg} {fi : ItF} {fe : EvF} {fl : Bool} {sl W : List (Option LV)} {ob : List LV} {B : α → List (Option LV)}
    (hi : fi ⟨sl, ob⟩ = .ok ((as.map fun a => .imm (f a), fl), ⟨sl, ob⟩)) (he : ∀ a ∈ as, fe ⟨B a, ob⟩ = .ok (.imm (e a), ⟨B a, ob⟩)) (hn : nlL ⟨sl, ob⟩ = true) (hl : as.length ≤ sizeLine) (hc : cleanL sl own = true := by rfl) (hW : wipeL sl own = W := by rfl)
    (hB : ∀ a ∈ as, bindT t (.imm (f a)) W = some (B a) := by intro _ _; rfl) (hB2 : ∀ a ∈ as, wipeL (B a) own = W := by intro _ _; rfl) (h0 : backL sl sl own = sl := by rfl) (h1 : ∀ a ∈ as, backL sl (B a) own = sl := by intro _ _; rfl) :
    lcE own false t fi tyE fe ⟨sl, ob⟩ = .ok (.lst ((as.map e).map .imm), ⟨sl, ob⟩) := by
  have q1 : ∀ g : α → PyData, (as.map fun a => LV.imm (g a)) = (as.map g).map .imm := fun g => by simp [Function.comp_def]
  have := ev_lc (s := ⟨sl, ob⟩) (s1 := ⟨sl, ob⟩) (fi := fun s => (fi s).bind fun p => .ok ((p.1.1, false), p.2)) (be := false) (ft := tyE) (p := fun _ => true) (t := t) (fe := fe) (e := fun a => .imm (e a)) as (fun a => .imm (f a)) (by simp only [hi, Res.bind]) hc hn (by rw [q1]; exact nlAll_imm _) hW hB hB2 h0 h1 (fun _ _ => rfl) (fun a h _ => he a h) (by rwa [List.filter_eq_self.mpr fun _ _ => rfl, List.length_map]) (by rw [List.filter_eq_self.mpr fun _ _ => rfl, q1]; exact nlAll_imm _)
  rw [List.filter_eq_self.mpr fun _ _ => rfl, q1 e] at this
  simp only [lcE, hi, Res.bind] at this ⊢
  have q : ∀ b : Bool, lcBad own false ((as.map fun a => .imm (f a), b), (⟨sl, ob⟩ : LS)) ↔ lcBad own false ((as.map fun a => .imm (f a), false), (⟨sl, ob⟩ : LS)) := fun b => by simp [lcBad]
  rw [if_neg (fun z => ?_)]
  · rwa [if_neg (fun z => ?_)] at this
    rw [if_pos z] at this; cases this
  · rw [if_pos ((q fl).mp z)] at this; cases this
/-- the same with a test -/
theorem lcP {α : Type} (as : List α) (f e : α → PyData) (p : α → Bool) {own : List Nat} {t : Tg} {fi : ItF} {ft : LS → Res (Bool × LS)} {fe : EvF} {fl : Bool} {sl W : List (Option LV)} {ob : List LV} {B : α → List (Option LV)}
    (hi : fi ⟨sl, ob⟩ = .ok ((as.map fun a => .imm (f a), fl), ⟨sl, ob⟩)) (ht : ∀ a ∈ as, ft ⟨B a, ob⟩ = .ok (p a, ⟨B a, ob⟩)) (he : ∀ a ∈ as, p a = true → fe ⟨B a, ob⟩ = .ok (.imm (e a), ⟨B a, ob⟩)) (hn : nlL ⟨sl, ob⟩ = true) (hl : as.length ≤ sizeLine) (hc : cleanL sl own = true := by rfl) (hW : wipeL sl own = W := by rfl)
    (hB : ∀ a ∈ as, bindT t (.imm (f a)) W = some (B a) := by intro _ _; rfl) (hB2 : ∀ a ∈ as, wipeL (B a) own = W := by intro _ _; rfl) (h0 : backL sl sl own = sl := by rfl) (h1 : ∀ a ∈ as, backL sl (B a) own = sl := by intro _ _; rfl) :
    lcE own false t fi ft fe ⟨sl, ob⟩ = .ok (.lst (((as.filter p).map e).map .imm), ⟨sl, ob⟩) := by
  have q1 : ∀ (as : List α) (g : α → PyData), (as.map fun a => LV.imm (g a)) = (as.map g).map .imm := fun as g => by simp [Function.comp_def]
  have hl2 := List.length_filter_le p as
  have := ev_lc (s := ⟨sl, ob⟩) (s1 := ⟨sl, ob⟩) (fi := fun s => (fi s).bind fun p => .ok ((p.1.1, false), p.2)) (be := false) (ft := ft) (p := p) (t := t) (fe := fe) (e := fun a => .imm (e a)) as (fun a => .imm (f a)) (by simp only [hi, Res.bind]) hc hn (by rw [q1]; exact nlAll_imm _) hW hB hB2 h0 h1 ht he (by rw [List.length_map]; omega) (by rw [q1]; exact nlAll_imm _)
  rw [q1 _ e] at this
  simp only [lcE, hi, Res.bind] at this ⊢
  have q : ∀ b : Bool, lcBad own false ((as.map fun a => .imm (f a), b), (⟨sl, ob⟩ : LS)) ↔ lcBad own false ((as.map fun a => .imm (f a), false), (⟨sl, ob⟩ : LS)) := fun b => by simp [lcBad]
  rw [if_neg (fun z => ?_)]
  · rwa [if_neg (fun z => ?_)] at this
    rw [if_pos z] at this; cases this
  · rw [if_pos ((q fl).mp z)] at this; cases this
/-! what is walked -/
theorem it_imm {α : Type} (f : α → PyData) {as : List α} (ha : fa s = .ok (x, s1)) (hd : x.dat s1.ob = some d) (hi : itemsD d = some (as.map f)) (hl : x.lh = false) : itP fa s = .ok ((as.map fun a => .imm (f a), false), s1) := by
  rw [ev_itP ha hd hi hl, List.map_map]; rfl
theorem it_lent {α : Type} (f : α → PyData) {as : List α} (ha : fa s = .ok (x, s1)) (hd : x.dat s1.ob = some d) (hi : itemsD d = some (as.map f)) (him : ∀ a, im (f a) = true) : itP fa s = .ok ((as.map fun a => .imm (f a), x.lh), s1) := by
  rw [ev_itPl ha hd hi, List.map_map]
  have : as.map (mkImm x.lh ∘ f) = as.map fun a => LV.imm (f a) := List.map_congr_left fun a _ => by
    show mkImm x.lh (f a) = _
    cases x.lh with
    | true => show (if im (f a) = true then _ else _) = _; rw [if_pos (him a)]
    | false => rfl
  rw [this]
theorem st_forE {t : Tg} {fi : ItF} {s s1 : LS} {xs : List LV} {R : SR} (hi : fi s = .ok ((xs, false), s1)) (h : forL t ga xs s1 = R) : forS fi t ga s = R := st_for hi h
end
def nlG : Option LV → Bool
  | none => true
  | some x => x.nl
theorem nlS_g (g : Option LV) (xs : List (Option LV)) : nlS (g :: xs) = (nlG g && nlS xs) := by cases g <;> rfl
theorem nlL_of {sl : List (Option LV)} (h : nlS sl = true) : nlL ⟨sl, []⟩ = true := by simp [nlL, h, LV.nls]
end MP
/-! MP.42: more words -/
namespace MP
open PySem PySem.Spec PyProof.Rows L2
section
variable {k : Nat} {X : Cx} {Y : Yx} {b ba bb bt bl be bi : Bool} {fa fb : EvF} {ea eb : Expr} {es : List Expr} {gA : LS → Res (List LV × LS)} {ga gb : LS → SR} {io : List Nat} {pos : Pos}
/-- the same, only read from then on: name = [.. for .. in ..] on one line -/
theorem z_lcf (c : Cc k X Y) (i : Nat) (ow : List (Str × Nat)) (own : List Nat) {y : Str} {py : Pos} {elt tg iter : Expr} {ifs : List Expr} {scope : Scope} {p2 : Pos} {fi : ItF} {t : Tg} {ft : LS → Res (Bool × LS)} {fe : EvF} (hi : SI Y X bi fi tg iter)
    (hg : ∀ (s : Shared) (H : Hp) (C : Addr) (cl : List (Str × Addr)) (fp : List Addr), Cc k (Blk X scope s H C cl fp) Y.b → PG (Blk X scope s H C cl fp) tg (tgT Y.K t))
    (htt : ∀ (s : Shared) (H : Hp) (C : Addr) (cl : List (Str × Addr)) (fp : List Addr), Cc k (Blk X scope s H C cl fp) Y.b → PTs (Blk X scope s H C cl fp) ifs (tG Y.b bt relB ft))
    (he : ∀ (s : Shared) (H : Hp) (C : Addr) (cl : List (Str × Addr)) (fp : List Addr), Cc k (Blk X scope s H C cl fp) Y.b → SE Y.b (Blk X scope s H C cl fp) bl fe elt)
    (ok : BlkOk X.N X.env.scope scope ow := by exact blkOk_by (by rfl)) (ho : ow.map (·.2) = own := by rfl) (ht : ∀ i ∈ tgS t, i ∈ own := by decide) (hs : ∀ x, foldedSetIterable iter X.env x = pure x := by intro _; rfl)
    (hbe : (bt || bl) = be := by rfl) (hy : X.N[i]? = some y := by rfl) (hyl : X.env.scope.names.lookup y = some .local := by rfl) (hio : i ∉ io := by decide)
    (hsw : swapsWith (.ListComp elt [⟨tg, iter, ifs, 0⟩] scope p2) (some (.Name y py)) pos.line X.env = pure true := by rfl) :
    SS Y X io (setS1 i (frzE (lcE own be t fi ft fe))) (.Assign [.Name y py] (.ListComp elt [⟨tg, iter, ifs, 0⟩] scope p2) pos) :=
  PSw (ps_setLc (own := ow) c.calm c.nd hy hyl hsw hi ok (fun s H C cl fp => hg s H C cl fp (c.blk ..)) (fun s H C cl fp => htt s H C cl fp (c.blk ..)) (fun s H C cl fp => he s H C cl fp (c.blk ..)) hs) fun D vs H h => by
    have q := asg_conv (b := bi || be) (t := .nm i) (fun j hj => by simp [tgS] at hj; subst hj; exact hio) h
    rw [ho]
    unfold tgT at q
    exact lc_conv ht (fun e => by rw [← hbe, e]; rfl) (fun e => by rw [← hbe, e]; cases bt <;> rfl) (frz_conv q)

end
end MP
/-! TL.1: evaluation over typed values: states told slot by slot, rules whose values are Lean values -/
namespace TL
open PySem PySem.Spec PyProof.Rows L2 MP

/-! ## how Lean values are told as data -/
abbrev nD (x : Nat) : PyData := .int x
abbrev zD (x : Int) : PyData := .int x
abbrev bD (x : Bool) : PyData := .bool x
abbrev sD (x : Str) : PyData := .str x
abbrev xD (x : PyData) : PyData := x
abbrev uD (_ : Unit) : PyData := .none
def tpD {α : Type} (D : α → PyData) (xs : List α) : PyData := .tuple (xs.map D)
def lsD {α : Type} (D : α → PyData) (xs : List α) : PyData := .list (xs.map D)
def p2D {α β : Type} (D : α → PyData) (E : β → PyData) (p : α × β) : PyData := .tuple [D p.1, E p.2]
def p3D {α β γ : Type} (D : α → PyData) (E : β → PyData) (G : γ → PyData) (p : α × β × γ) : PyData := .tuple [D p.1, E p.2.1, G p.2.2]
def p4D {α β γ δ : Type} (D : α → PyData) (E : β → PyData) (G : γ → PyData) (H : δ → PyData) (p : α × β × γ × δ) : PyData := .tuple [D p.1, E p.2.1, G p.2.2.1, H p.2.2.2]
def oD {α : Type} (D : α → PyData) : Option α → PyData
  | none => .none
  | some a => D a
/-- only read; lent; an own list -/
def iF {α : Type} (D : α → PyData) (a : α) : LV := .imm (D a)
def nF {α : Type} (D : α → PyData) (a : α) : LV := .lent (D a)
def lF {α : Type} (F : α → LV) (xs : List α) : LV := .lst (xs.map F)

class ImD {α : Type} (D : α → PyData) : Prop where
  im : ∀ a, im (D a) = true
class NiD {α : Type} (D : α → PyData) : Prop where
  ni : ∀ a, im (D a) = false
class DpD {α : Type} (D : α → PyData) (n : outParam Nat) : Prop where
  pl : ∀ a, (D a).plain = true
  dp : ∀ a, (D a).depth ≤ n
class EqD {α : Type} [DecidableEq α] (D : α → PyData) : Prop where
  eqv : ∀ a b, PyData.eqv (D a) (D b) = decide (a = b)
class FlF {α : Type} (F : α → LV) (D : outParam (α → PyData)) : Prop where
  dat : ∀ a, (F a).dat0 = some (D a)
  nl : ∀ a, (F a).nl = true
  giv : ∀ a, LV.giv.giv1 (F a) = true

section
variable {α β γ δ : Type} {D : α → PyData} {E : β → PyData} {G : γ → PyData} {H : δ → PyData} {F : α → LV}
theorem ims_map (h : ∀ a, im (D a) = true) : ∀ xs : List α, ims (xs.map D) = true
  | [] => rfl
  | x :: xs => by rw [List.map_cons, ims, h x, ims_map h xs]; rfl
instance : ImD nD := ⟨fun _ => rfl⟩
instance : ImD zD := ⟨fun _ => rfl⟩
instance : ImD bD := ⟨fun _ => rfl⟩
instance : ImD sD := ⟨fun _ => rfl⟩
instance : ImD uD := ⟨fun _ => rfl⟩
instance [ImD D] : ImD (tpD D) := ⟨fun xs => ims_map ImD.im xs⟩
instance [ImD D] [ImD E] : ImD (p2D D E) := ⟨fun p => by simp only [p2D, im, ims, ImD.im, Bool.and_self]⟩
instance [ImD D] [ImD E] [ImD G] : ImD (p3D D E G) := ⟨fun p => by simp only [p3D, im, ims, ImD.im, Bool.and_self]⟩
instance [ImD D] [ImD E] [ImD G] [ImD H] : ImD (p4D D E G H) := ⟨fun p => by simp only [p4D, im, ims, ImD.im, Bool.and_self]⟩
instance [ImD D] : ImD (oD D) := ⟨fun a => by cases a with
  | none => rfl
  | some a => exact ImD.im a⟩
instance : NiD (lsD D) := ⟨fun _ => rfl⟩

theorem plainAll_map (h : ∀ a, (D a).plain = true) : ∀ xs : List α, PyData.plainAll (xs.map D) = true
  | [] => rfl
  | x :: xs => by rw [List.map_cons, PyData.plainAll, h x, plainAll_map h xs]; rfl
theorem depthAll_map {n : Nat} (h : ∀ a, (D a).depth ≤ n) : ∀ xs : List α, PyData.depthAll (xs.map D) ≤ n
  | [] => Nat.zero_le _
  | x :: xs => by
    rw [List.map_cons, PyData.depthAll]
    exact Nat.max_le.mpr ⟨h x, depthAll_map h xs⟩
instance : DpD nD 0 := ⟨fun _ => rfl, fun _ => Nat.le_refl _⟩
instance : DpD zD 0 := ⟨fun _ => rfl, fun _ => Nat.le_refl _⟩
instance : DpD bD 0 := ⟨fun _ => rfl, fun _ => Nat.le_refl _⟩
instance : DpD sD 0 := ⟨fun _ => rfl, fun _ => Nat.le_refl _⟩
instance : DpD uD 0 := ⟨fun _ => rfl, fun _ => Nat.le_refl _⟩
instance {n : Nat} [DpD D n] : DpD (tpD D) (n + 1) := ⟨fun xs => by simp only [tpD, PyData.plain, plainAll_map DpD.pl xs], fun xs => by simp only [tpD, PyData.depth]; exact Nat.succ_le_succ (depthAll_map DpD.dp xs)⟩
instance {n : Nat} [DpD D n] : DpD (lsD D) (n + 1) := ⟨fun xs => by simp only [lsD, PyData.plain, plainAll_map DpD.pl xs], fun xs => by simp only [lsD, PyData.depth]; exact Nat.succ_le_succ (depthAll_map DpD.dp xs)⟩
instance {n m : Nat} [DpD D n] [DpD E m] : DpD (p2D D E) (max n m + 1) := ⟨fun p => by simp only [p2D, PyData.plain, PyData.plainAll, DpD.pl, Bool.and_self], fun p => by
  have := DpD.dp (D := D) p.1
  have := DpD.dp (D := E) p.2
  simp only [p2D, PyData.depth, PyData.depthAll]; omega⟩
instance {n m k : Nat} [DpD D n] [DpD E m] [DpD G k] : DpD (p3D D E G) (max n (max m k) + 1) := ⟨fun p => by simp only [p3D, PyData.plain, PyData.plainAll, DpD.pl, Bool.and_self], fun p => by
  have := DpD.dp (D := D) p.1
  have := DpD.dp (D := E) p.2.1
  have := DpD.dp (D := G) p.2.2
  simp only [p3D, PyData.depth, PyData.depthAll]; omega⟩
instance {n m k l : Nat} [DpD D n] [DpD E m] [DpD G k] [DpD H l] : DpD (p4D D E G H) (max n (max m (max k l)) + 1) := ⟨fun p => by simp only [p4D, PyData.plain, PyData.plainAll, DpD.pl, Bool.and_self], fun p => by
  have := DpD.dp (D := D) p.1
  have := DpD.dp (D := E) p.2.1
  have := DpD.dp (D := G) p.2.2.1
  have := DpD.dp (D := H) p.2.2.2
  simp only [p4D, PyData.depth, PyData.depthAll]; omega⟩
instance {n : Nat} [DpD D n] : DpD (oD D) n := ⟨fun a => by cases a with
  | none => rfl
  | some a => exact DpD.pl a, fun a => by cases a with
  | none => exact Nat.zero_le _
  | some a => exact DpD.dp a⟩
theorem okD_of {n : Nat} [DpD D n] (h : n ≤ 40) (a : α) : okD (D a) = true := by
  simp only [okD, DpD.pl, Bool.true_and, decide_eq_true_eq]
  exact Nat.le_trans (DpD.dp a) h

theorem eqvAll_map [DecidableEq α] (h : ∀ a b, PyData.eqv (D a) (D b) = decide (a = b)) : ∀ xs ys : List α, PyData.eqvAll (xs.map D) (ys.map D) = decide (xs = ys)
  | [], [] => by simp only [List.map_nil, PyData.eqvAll, decide_true]
  | [], _ :: _ => by simp [PyData.eqvAll]
  | _ :: _, [] => by simp [PyData.eqvAll]
  | x :: xs, y :: ys => by
    rw [List.map_cons, List.map_cons, PyData.eqvAll, h x y, eqvAll_map h xs ys, ← Bool.decide_and]
    exact decide_eq_decide.mpr (by rw [List.cons.injEq])
instance : EqD nD := ⟨fun a b => by rw [show PyData.eqv (nD a) (nD b) = decide ((a : Int) = (b : Int)) from PySem.W.Datum.eqv (α := Int) _ _]; exact decide_eq_decide.mpr (by omega)⟩
instance : EqD zD := ⟨fun a b => PySem.W.Datum.eqv (α := Int) a b⟩
instance : EqD bD := ⟨fun a b => PySem.W.Datum.eqv (α := Bool) a b⟩
instance : EqD sD := ⟨fun a b => PySem.W.Datum.eqv (α := Str) a b⟩
instance [DecidableEq α] [EqD D] : EqD (tpD D) := ⟨fun xs ys => by simp only [tpD, PyData.eqv]; exact eqvAll_map EqD.eqv xs ys⟩
instance [DecidableEq α] [EqD D] : EqD (lsD D) := ⟨fun xs ys => by simp only [lsD, PyData.eqv]; exact eqvAll_map EqD.eqv xs ys⟩
instance [DecidableEq α] [DecidableEq β] [EqD D] [EqD E] : EqD (p2D D E) := ⟨fun p q => by
  simp only [p2D, PyData.eqv, PyData.eqvAll, EqD.eqv, Bool.and_true, ← Bool.decide_and]
  exact decide_eq_decide.mpr ⟨fun e => Prod.ext e.1 e.2, fun e => by rw [e]; exact ⟨rfl, rfl⟩⟩⟩
instance [DecidableEq α] [DecidableEq β] [DecidableEq γ] [EqD D] [EqD E] [EqD G] : EqD (p3D D E G) := ⟨fun p q => by
  simp only [p3D, PyData.eqv, PyData.eqvAll, EqD.eqv, Bool.and_true, ← Bool.decide_and]
  exact decide_eq_decide.mpr ⟨fun e => Prod.ext e.1 (Prod.ext e.2.1 e.2.2), fun e => by rw [e]; exact ⟨rfl, rfl, rfl⟩⟩⟩

theorem dats0_map (h : ∀ a, (F a).dat0 = some (D a)) : ∀ as : List α, LV.dats0 (as.map F) = some (as.map D)
  | [] => rfl
  | a :: as => by simp only [List.map_cons, LV.dats0, h a, dats0_map h as]
theorem nls_map (h : ∀ a, (F a).nl = true) : ∀ as : List α, LV.nls (as.map F) = true
  | [] => rfl
  | a :: as => by simp only [List.map_cons, LV.nls, h a, nls_map h as, Bool.and_self]
theorem givs_map (h : ∀ a, LV.giv.giv1 (F a) = true) : ∀ as : List α, LV.giv.givs (as.map F) = true
  | [] => rfl
  | a :: as => by simp only [List.map_cons, LV.giv.givs, h a, givs_map h as, Bool.and_self]
instance : FlF (iF D) D := ⟨fun _ => rfl, fun _ => rfl, fun _ => rfl⟩
instance [FlF F D] : FlF (lF F) (lsD D) := ⟨fun xs => by simp only [lF, lsD, LV.dat0, dats0_map FlF.dat xs, Option.map_some], fun xs => by simp only [lF, LV.nl, nls_map FlF.nl xs], fun xs => by simp only [lF, LV.giv.giv1, givs_map FlF.giv xs]⟩
theorem nlAll_map [FlF F D] (xs : List α) : nlAll (xs.map F) = true := by
  simp only [nlAll, List.all_map, List.all_eq_true]
  intro a _
  exact FlF.nl (F := F) a
theorem lh_lst [FlF F D] (xs : List α) : (lF F xs).lh = false := by
  have := FlF.nl (F := lF F) xs
  simp only [lF] at this ⊢
  simp only [LV.lh, this]
  rfl

/-! ## what is read of a value -/
theorem vi (a : α) : (iF D a).dat [] = some (D a) := rfl
theorem vn (a : α) : (nF D a).dat [] = some (D a) := rfl
theorem vl [FlF F D] (xs : List α) : (lF F xs).dat [] = some (lsD D xs) := by
  have := FlF.dat (F := lF F) xs
  simp only [lF] at this ⊢
  simp only [LV.dat, this]
end

/-! ## a state, slot by slot -/
inductive SP where
  | is (x : LV) | cl | jk | any
def SP.ok : SP → Option LV → Prop
  | .is x, o => o = some x
  | .cl, o => o = none ∨ ∃ d, o = some (.imm d)
  | .jk, o => ∀ x, o = some x → x.nl = true
  | .any, _ => True
inductive MtL : List SP → List (Option LV) → Prop
  | nil : MtL [] []
  | cons {p : SP} {o : Option LV} {ps : List SP} {os : List (Option LV)} : p.ok o → MtL ps os → MtL (p :: ps) (o :: os)
theorem MtL.len {Γ : List SP} {sl : List (Option LV)} (h : MtL Γ sl) : Γ.length = sl.length := by
  induction h with
  | nil => rfl
  | cons _ _ ih => rw [List.length_cons, List.length_cons, ih]
theorem MtL.get {Γ : List SP} {sl : List (Option LV)} (h : MtL Γ sl) : ∀ {i : Nat} {p : SP}, Γ[i]? = some p → ∃ o, sl[i]? = some o ∧ p.ok o := by
  induction h with
  | nil => intro i p e; cases e
  | cons hp _ ih =>
    intro i q e
    cases i with
    | zero => cases e; exact ⟨_, rfl, hp⟩
    | succ i => exact ih (by simpa using e)
theorem MtL.at {Γ : List SP} {sl : List (Option LV)} (h : MtL Γ sl) {i : Nat} {x : LV} (e : Γ[i]? = some (.is x)) : sl[i]? = some (some x) := by
  obtain ⟨o, e1, e2⟩ := h.get e
  rw [e1, show o = some x from e2]
theorem MtL.set {Γ : List SP} {sl : List (Option LV)} (h : MtL Γ sl) {p : SP} {o : Option LV} (hp : p.ok o) : ∀ i : Nat, MtL (Γ.set i p) (sl.set i o) := by
  induction h with
  | nil => intro i; exact .nil
  | cons hq ht ih =>
    intro i
    cases i with
    | zero => exact .cons hp ht
    | succ i => exact .cons hq (ih i)
/-- no slot holds what is lent -/
class NlP (p : SP) : Prop where
  nl : ∀ o, p.ok o → ∀ x, o = some x → x.nl = true
class NlG (Γ : List SP) : Prop where
  nl : ∀ sl, MtL Γ sl → nlS sl = true
instance : NlP .cl := ⟨fun o h x e => by
  subst e
  rcases h with h | ⟨d, h⟩
  · cases h
  · cases h; rfl⟩
instance : NlP .jk := ⟨fun o h x e => h x e⟩
instance nlp_is {α : Type} {F : α → LV} {D : α → PyData} [FlF F D] {a : α} : NlP (.is (F a)) := ⟨fun o h x e => by
  rw [show o = some (F a) from h] at e
  cases e
  exact FlF.nl a⟩
instance nlp_i {α : Type} {D : α → PyData} {a : α} : NlP (.is (iF D a)) := nlp_is
instance nlp_l {α : Type} {F : α → LV} {D : α → PyData} [FlF F D] {a : List α} : NlP (.is (lF F a)) := nlp_is (F := lF F)
instance : NlG [] := ⟨fun sl h => by cases h; rfl⟩
instance {p : SP} {Γ : List SP} [NlP p] [NlG Γ] : NlG (p :: Γ) := ⟨fun sl h => by
  cases h with
  | cons hp ht =>
    rename_i o os
    have q := NlG.nl _ ht
    cases o with
    | none => exact q
    | some x => simp only [nlS, NlP.nl _ hp x rfl, q, Bool.and_self]⟩
theorem NlG.all {Γ : List SP} [NlG Γ] {sl : List (Option LV)} (h : MtL Γ sl) : nlL ⟨sl, []⟩ = true := by
  simp only [nlL, NlG.nl sl h, LV.nls, Bool.and_self]
/-- a state that tells less -/
def Wk (Γ Δ : List SP) : Prop := ∀ sl, MtL Γ sl → MtL Δ sl
theorem wk_r {Γ : List SP} : Wk Γ Γ := fun _ h => h
theorem wk_n : Wk [] [] := fun _ h => h
theorem wk_s {p : SP} {Γ Δ : List SP} (h : Wk Γ Δ) : Wk (p :: Γ) (p :: Δ) := fun _ z => by
  cases z with
  | cons a b => exact .cons a (h _ b)
theorem wk_a {p : SP} {Γ Δ : List SP} (h : Wk Γ Δ) : Wk (p :: Γ) (.any :: Δ) := fun _ z => by
  cases z with
  | cons a b => exact .cons trivial (h _ b)
theorem wk_j {p : SP} {Γ Δ : List SP} [NlP p] (h : Wk Γ Δ) : Wk (p :: Γ) (.jk :: Δ) := fun _ z => by
  cases z with
  | cons a b => exact .cons (fun x e => NlP.nl _ a x e) (h _ b)
theorem wk_c {α : Type} {D : α → PyData} {a : α} {Γ Δ : List SP} (h : Wk Γ Δ) : Wk (.is (iF D a) :: Γ) (.cl :: Δ) := fun _ z => by
  cases z with
  | cons a b => exact .cons (.inr ⟨_, a⟩) (h _ b)

class NlV (x : LV) : Prop where
  nl : x.nl = true
/-- what is evaluated ahead of something with effects -/
class BB (b : Bool) (x : LV) : Prop where
  h : b = true → x.nl = true
instance bb_f {x : LV} : BB false x := ⟨fun h => nomatch h⟩
instance bb_n {b : Bool} {x : LV} [NlV x] : BB b x := ⟨fun _ => NlV.nl⟩
instance nlv_i {α : Type} {D : α → PyData} {a : α} : NlV (iF D a) := ⟨rfl⟩
instance nlv_l {α : Type} {D : α → PyData} {F : α → LV} [FlF F D] {as : List α} : NlV (lF F as) := ⟨FlF.nl (F := lF F) as⟩
instance nlv_p {x : LV} [NlV x] : NlP (.is x) := ⟨fun o h y e => by
  rw [show o = some x from h] at e
  cases e
  exact NlV.nl⟩
/-! ## what an expression comes to -/
def TE (Γ : List SP) (e : EvF) (g : Prop) (x : LV) (Δ : List SP) : Prop := g → ∀ sl, MtL Γ sl → ∃ sl', e ⟨sl, []⟩ = .ok (x, ⟨sl', []⟩) ∧ MtL Δ sl'
def TA (Γ : List SP) (e : LS → Res (List LV × LS)) (g : Prop) (xs : List LV) (Δ : List SP) : Prop := g → ∀ sl, MtL Γ sl → ∃ sl', e ⟨sl, []⟩ = .ok (xs, ⟨sl', []⟩) ∧ MtL Δ sl'
def TT (Γ : List SP) (e : LS → Res (Bool × LS)) (g : Prop) (b : Bool) (Δ : List SP) : Prop := g → ∀ sl, MtL Γ sl → ∃ sl', e ⟨sl, []⟩ = .ok (b, ⟨sl', []⟩) ∧ MtL Δ sl'
def TO (Γ : List SP) (e : LS → Res (Option Int × LS)) (g : Prop) (o : Option Int) (Δ : List SP) : Prop := g → ∀ sl, MtL Γ sl → ∃ sl', e ⟨sl, []⟩ = .ok (o, ⟨sl', []⟩) ∧ MtL Δ sl'
def TI (Γ : List SP) (e : ItF) (g : Prop) {α : Type} (v : α → LV) (as : List α) (fl : Bool) (Δ : List SP) : Prop := g → ∀ sl, MtL Γ sl → ∃ sl', e ⟨sl, []⟩ = .ok ((as.map v, fl), ⟨sl', []⟩) ∧ MtL Δ sl'
/-- a path's steps, without effects -/
def TP (Γ : List SP) (e : LS → Res (List PyData)) (g : Prop) (ds : List PyData) : Prop := g → ∀ sl, MtL Γ sl → e ⟨sl, []⟩ = .ok ds
/-- the target's slots filled -/
def TG (Γ : List SP) (t : Tg) (x : LV) (Δ : List SP) : Prop := ∀ sl, MtL Γ sl → ∃ sl', bindT t x sl = some sl' ∧ MtL Δ sl'
section
variable {α β γ δ : Type} {D : α → PyData} {E : β → PyData} {G : γ → PyData} {H : δ → PyData} {F : α → LV}
variable {Γ Γ1 Γ2 Γ3 Δ : List SP} {fa fb fc : EvF} {gA gB : LS → Res (List LV × LS)} {ft : LS → Res (Bool × LS)} {fi : ItF} {fp : LS → Res (List PyData)} {fl fh : LS → Res (Option Int × LS)} {g ga gb gc gd : Prop} {x y z : LV} {xs ys : List LV} {bb be : Bool} {d e : PyData} {i j : Nat}
theorem te_w (h : TE Γ fa g x Γ1) {g' : Prop} (k : g' → g) : TE Γ fa g' x Γ1 := fun q => h (k q)
theorem te_v (h : Γ[i]? = some (.is (iF D a))) : TE Γ (varE i) True (iF D a) Γ := fun _ sl m => ⟨sl, by rw [ev_v (m.at h) rfl]; rfl, m⟩
theorem te_vl [FlF F D] {as : List α} (h : Γ[i]? = some (.is (lF F as))) : TE Γ (varE i) True (nF (lsD D) as) Γ := fun _ sl m => ⟨sl, by
  rw [ev_v (m.at h) (y := nF (lsD D) as)]
  have := vl (F := F) as
  simp only [lF] at this ⊢
  simp only [readV, this, Option.map_some, mkLent, lsD]
  rfl, m⟩
theorem te_cN (n : Nat) {z : Int} (h : z = (n : Int) := by rfl) : TE Γ (cE (.int z)) True (iF nD n) Γ := fun _ sl m => ⟨sl, by rw [h]; rfl, m⟩
theorem te_cZ (z : Int) : TE Γ (cE (.int z)) True (iF zD z) Γ := fun _ sl m => ⟨sl, rfl, m⟩
theorem te_cB (b : Bool) : TE Γ (cE (.bool b)) True (iF bD b) Γ := fun _ sl m => ⟨sl, rfl, m⟩
theorem te_cS (s : Str) : TE Γ (cE (.str s)) True (iF sD s) Γ := fun _ sl m => ⟨sl, rfl, m⟩
theorem te_cU : TE Γ (cE .none) True (iF uD ()) Γ := fun _ sl m => ⟨sl, rfl, m⟩
theorem te_nz {n : Nat} (h : TE Γ fa g (iF nD n) Γ1) : TE Γ fa g (iF zD (n : Int)) Γ1 := h
theorem te_x {a : α} (h : TE Γ fa g (iF D a) Γ1) : TE Γ fa g (iF xD (D a)) Γ1 := h
theorem te_some {a : α} (h : TE Γ fa g (iF D a) Γ1) : TE Γ fa g (iF (oD D) (some a)) Γ1 := h
theorem te_none (D : α → PyData) (h : TE Γ fa g (iF uD ()) Γ1) : TE Γ fa g (iF (oD D) none) Γ1 := h
theorem te_op {lv : LV → LV → RK → LV} {f : PyData → PyData → Option RK} {r : RK} (ha : TE Γ fa ga x Γ1) (hb : TE Γ1 fb gb y Γ2) (hd : x.dat [] = some d) (he : y.dat [] = some e) (hn : bb = true → x.nl = true) (hg : gc → f d e = some r) (hz : lv x y r = z) : TE Γ (op2E f lv bb fa fb) (ga ∧ gb ∧ gc) z Γ2 := fun q sl m => by
  obtain ⟨s1, e1, m1⟩ := ha q.1 sl m
  obtain ⟨s2, e2, m2⟩ := hb q.2.1 s1 m1
  exact ⟨s2, ev_op e1 e2 hd he (hg q.2.2) hz hn, m2⟩
theorem te_op0 {lv : LV → LV → RK → LV} {f : PyData → PyData → Option RK} {r : RK} (ha : TE Γ fa ga x Γ1) (hb : TE Γ1 fb gb y Γ2) (hd : x.dat [] = some d) (he : y.dat [] = some e) (hn : bb = true → x.nl = true) (hg : f d e = some r) (hz : lv x y r = z) : TE Γ (op2E f lv bb fa fb) (ga ∧ gb) z Γ2 := fun q sl m => by
  obtain ⟨s1, e1, m1⟩ := ha q.1 sl m
  obtain ⟨s2, e2, m2⟩ := hb q.2 s1 m1
  exact ⟨s2, ev_op e1 e2 hd he hg hz hn, m2⟩
theorem te_cmp {o : CmpOp} {c c' : Bool} (ha : TE Γ fa ga x Γ1) (hb : TE Γ1 fb gb y Γ2) (hd : x.dat [] = some d) (he : y.dat [] = some e) (hn : bb = true → x.nl = true) (hg : cmpK o d e = some (.dat (.bool c))) (hz : c = c') : TE Γ (op2E (cmpK o) lvC bb fa fb) (ga ∧ gb) (iF bD c') Γ2 := by
  subst hz
  exact te_op0 ha hb hd he hn hg rfl
theorem mkImm_im {b : Bool} (h : im d = true) : mkImm b d = .imm d := by
  cases b with
  | true => show (if im d = true then _ else _) = _; rw [if_pos h]
  | false => rfl
theorem mkImm_ni (h : im d = false) : mkImm true d = .lent d := by
  show (if im d = true then _ else _) = _; rw [if_neg (by rw [h]; exact Bool.noConfusion)]
theorem lvB_im (h : im d = true) : lvB x y (.dat d) = .imm d := mkImm_im h
/-! ### numbers -/
section
variable {a b : Nat} {u v : Int}
abbrev MO (i j : Int) : Prop := mulOk i j = true
theorem te_addN (ha : TE Γ fa ga (iF nD a) Γ1) (hb : TE Γ1 fb gb (iF nD b) Γ2) : TE Γ (op2E (bopD .Add) lvB bb fa fb) (ga ∧ gb) (iF nD (a + b)) Γ2 := te_op0 ha hb rfl rfl (fun _ => rfl) (add_int _ _) lvB_int
theorem te_addZ (ha : TE Γ fa ga (iF zD u) Γ1) (hb : TE Γ1 fb gb (iF zD v) Γ2) : TE Γ (op2E (bopD .Add) lvB bb fa fb) (ga ∧ gb) (iF zD (u + v)) Γ2 := te_op0 ha hb rfl rfl (fun _ => rfl) (add_int _ _) lvB_int
theorem te_subZ (ha : TE Γ fa ga (iF zD u) Γ1) (hb : TE Γ1 fb gb (iF zD v) Γ2) : TE Γ (op2E (bopD .Sub) lvB bb fa fb) (ga ∧ gb) (iF zD (u - v)) Γ2 := te_op0 ha hb rfl rfl (fun _ => rfl) (sub_int _ _) lvB_int
/-- a difference of which is known that it is not below 0 -/
theorem te_subN (ha : TE Γ fa ga (iF nD a) Γ1) (hb : TE Γ1 fb gb (iF nD b) Γ2) : TE Γ (op2E (bopD .Sub) lvB bb fa fb) (ga ∧ gb ∧ b ≤ a) (iF nD (a - b)) Γ2 := te_op ha hb rfl rfl (fun _ => rfl) (fun h => by rw [MP.sub_int]; exact congrArg (fun z => some (RK.dat (.int z))) (show (a : Int) - b = ((a - b : Nat) : Int) by omega)) lvB_int
theorem te_mulN (ha : TE Γ fa ga (iF nD a) Γ1) (hb : TE Γ1 fb gb (iF nD b) Γ2) : TE Γ (op2E (bopD .Mult) lvB bb fa fb) (ga ∧ gb ∧ MO a b) (iF nD (a * b)) Γ2 := te_op ha hb rfl rfl (fun _ => rfl) (fun h => mul_int h) lvB_int
theorem te_mulZ (ha : TE Γ fa ga (iF zD u) Γ1) (hb : TE Γ1 fb gb (iF zD v) Γ2) : TE Γ (op2E (bopD .Mult) lvB bb fa fb) (ga ∧ gb ∧ MO u v) (iF zD (u * v)) Γ2 := te_op ha hb rfl rfl (fun _ => rfl) (fun h => mul_int h) lvB_int
theorem te_divNc {k : Nat} (ha : TE Γ fa ga (iF nD a) Γ1) (hb : TE Γ1 fb gb (iF nD k) Γ2) (h1 : 0 < k) (h2 : k.log2 < 9000) : TE Γ (op2E (bopD .FloorDiv) lvB bb fa fb) (ga ∧ gb) (iF nD (a / k)) Γ2 := te_op0 ha hb rfl rfl (fun _ => rfl) (fdiv_int (by omega) h2) lvB_int
theorem te_divN (ha : TE Γ fa ga (iF nD a) Γ1) (hb : TE Γ1 fb gb (iF nD b) Γ2) : TE Γ (op2E (bopD .FloorDiv) lvB bb fa fb) (ga ∧ gb ∧ (0 < b ∧ b.log2 < 9000)) (iF nD (a / b)) Γ2 := te_op ha hb rfl rfl (fun _ => rfl) (fun h => fdiv_int (by omega) h.2) lvB_int
theorem te_divZc {k : Nat} (ha : TE Γ fa ga (iF zD u) Γ1) (hb : TE Γ1 fb gb (iF nD k) Γ2) (h1 : 0 < k) (h2 : k.log2 < 9000) : TE Γ (op2E (bopD .FloorDiv) lvB bb fa fb) (ga ∧ gb) (iF zD (u / (k : Int))) Γ2 := te_op0 ha hb rfl rfl (fun _ => rfl) (fdiv_int (by omega) h2) lvB_int
theorem te_modNc {k : Nat} (ha : TE Γ fa ga (iF nD a) Γ1) (hb : TE Γ1 fb gb (iF nD k) Γ2) (h1 : 0 < k) : TE Γ (op2E (bopD .Mod) lvB bb fa fb) (ga ∧ gb) (iF nD (a % k)) Γ2 := te_op0 ha hb rfl rfl (fun _ => rfl) (mod_int (by omega)) lvB_int
theorem te_modN (ha : TE Γ fa ga (iF nD a) Γ1) (hb : TE Γ1 fb gb (iF nD b) Γ2) : TE Γ (op2E (bopD .Mod) lvB bb fa fb) (ga ∧ gb ∧ 0 < b) (iF nD (a % b)) Γ2 := te_op ha hb rfl rfl (fun _ => rfl) (fun h => mod_int (by omega)) lvB_int
theorem te_modZc {k : Nat} (ha : TE Γ fa ga (iF zD u) Γ1) (hb : TE Γ1 fb gb (iF nD k) Γ2) (h1 : 0 < k) : TE Γ (op2E (bopD .Mod) lvB bb fa fb) (ga ∧ gb) (iF zD (u % (k : Int))) Γ2 := te_op0 ha hb rfl rfl (fun _ => rfl) (mod_int (by omega)) lvB_int
theorem te_modZN (ha : TE Γ fa ga (iF zD u) Γ1) (hb : TE Γ1 fb gb (iF nD b) Γ2) : TE Γ (op2E (bopD .Mod) lvB bb fa fb) (ga ∧ gb ∧ 0 < b) (iF nD (u % (b : Int)).toNat) Γ2 := te_op ha hb rfl rfl (fun _ => rfl) (fun h => by
  rw [MP.mod_int (by omega)]
  have := Int.emod_nonneg u (b := (b : Int)) (by omega)
  exact congrArg (fun z => some (RK.dat (.int z))) (Int.toNat_of_nonneg this).symm) lvB_int
/-- a rest as a number not below 0 -/
theorem te_modZcN {k : Nat} (ha : TE Γ fa ga (iF zD u) Γ1) (hb : TE Γ1 fb gb (iF nD k) Γ2) (h1 : 0 < k) : TE Γ (op2E (bopD .Mod) lvB bb fa fb) (ga ∧ gb) (iF nD (u % (k : Int)).toNat) Γ2 := te_op0 ha hb rfl rfl (fun _ => rfl) (by
  rw [MP.mod_int (by omega)]
  have := Int.emod_nonneg u (b := (k : Int)) (by omega)
  exact congrArg (fun z => some (RK.dat (.int z))) (Int.toNat_of_nonneg this).symm) lvB_int
theorem te_neg (ha : TE Γ fa ga (iF zD u) Γ1) : TE Γ (negE fa) ga (iF zD (-u)) Γ1 := fun q sl m => by
  obtain ⟨s1, e1, m1⟩ := ha q sl m
  exact ⟨s1, ev_neg e1, m1⟩
theorem te_ltN (ha : TE Γ fa ga (iF nD a) Γ1) (hb : TE Γ1 fb gb (iF nD b) Γ2) : TE Γ (op2E (cmpK .Lt) lvC bb fa fb) (ga ∧ gb) (iF bD (decide (a < b))) Γ2 := te_cmp ha hb rfl rfl (fun _ => rfl) (MP.lt_int _ _) (decide_eq_decide.mpr (by omega))
theorem te_leN (ha : TE Γ fa ga (iF nD a) Γ1) (hb : TE Γ1 fb gb (iF nD b) Γ2) : TE Γ (op2E (cmpK .LtE) lvC bb fa fb) (ga ∧ gb) (iF bD (decide (a ≤ b))) Γ2 := te_cmp ha hb rfl rfl (fun _ => rfl) (MP.le_int _ _) (decide_eq_decide.mpr (by omega))
theorem te_gtN (ha : TE Γ fa ga (iF nD a) Γ1) (hb : TE Γ1 fb gb (iF nD b) Γ2) : TE Γ (op2E (cmpK .Gt) lvC bb fa fb) (ga ∧ gb) (iF bD (decide (b < a))) Γ2 := te_cmp ha hb rfl rfl (fun _ => rfl) (MP.gt_int _ _) (decide_eq_decide.mpr (by omega))
theorem te_geN (ha : TE Γ fa ga (iF nD a) Γ1) (hb : TE Γ1 fb gb (iF nD b) Γ2) : TE Γ (op2E (cmpK .GtE) lvC bb fa fb) (ga ∧ gb) (iF bD (decide (b ≤ a))) Γ2 := te_cmp ha hb rfl rfl (fun _ => rfl) (MP.ge_int _ _) (decide_eq_decide.mpr (by omega))
theorem te_ltZ (ha : TE Γ fa ga (iF zD u) Γ1) (hb : TE Γ1 fb gb (iF zD v) Γ2) : TE Γ (op2E (cmpK .Lt) lvC bb fa fb) (ga ∧ gb) (iF bD (decide (u < v))) Γ2 := te_op0 ha hb rfl rfl (fun _ => rfl) (lt_int _ _) rfl
theorem te_leZ (ha : TE Γ fa ga (iF zD u) Γ1) (hb : TE Γ1 fb gb (iF zD v) Γ2) : TE Γ (op2E (cmpK .LtE) lvC bb fa fb) (ga ∧ gb) (iF bD (decide (u ≤ v))) Γ2 := te_op0 ha hb rfl rfl (fun _ => rfl) (le_int _ _) rfl
theorem te_gtZ (ha : TE Γ fa ga (iF zD u) Γ1) (hb : TE Γ1 fb gb (iF zD v) Γ2) : TE Γ (op2E (cmpK .Gt) lvC bb fa fb) (ga ∧ gb) (iF bD (decide (v < u))) Γ2 := te_op0 ha hb rfl rfl (fun _ => rfl) (gt_int _ _) rfl
theorem te_geZ (ha : TE Γ fa ga (iF zD u) Γ1) (hb : TE Γ1 fb gb (iF zD v) Γ2) : TE Γ (op2E (cmpK .GtE) lvC bb fa fb) (ga ∧ gb) (iF bD (decide (v ≤ u))) Γ2 := te_op0 ha hb rfl rfl (fun _ => rfl) (ge_int _ _) rfl
end
/-! ### like, unlike, in -/
theorem te_eq [DecidableEq α] [EqD D] {a b : α} {n : Nat} [DpD D n] (ha : TE Γ fa ga x Γ1) (hb : TE Γ1 fb gb y Γ2) (hd : x.dat [] = some (D a)) (he : y.dat [] = some (D b)) [hn : BB bb x] (h40 : n ≤ 40) : TE Γ (op2E (cmpK .Eq) lvC bb fa fb) (ga ∧ gb) (iF bD (decide (a = b))) Γ2 :=
  te_cmp (c := decide (a = b)) ha hb hd he hn.h (by simp only [cmpK, cmpD, okD_of h40 a, okD_of h40 b, Bool.and_self, if_true, EqD.eqv, Option.map_some]) rfl
theorem te_ne [DecidableEq α] [EqD D] {a b : α} {n : Nat} [DpD D n] (ha : TE Γ fa ga x Γ1) (hb : TE Γ1 fb gb y Γ2) (hd : x.dat [] = some (D a)) (he : y.dat [] = some (D b)) [hn : BB bb x] (h40 : n ≤ 40) : TE Γ (op2E (cmpK .NotEq) lvC bb fa fb) (ga ∧ gb) (iF bD (decide (a ≠ b))) Γ2 :=
  te_cmp (c := !decide (a = b)) ha hb hd he hn.h (by simp only [cmpK, cmpD, okD_of h40 a, okD_of h40 b, Bool.and_self, if_true, EqD.eqv, Option.map_some]) (by simp)
theorem any_in [DecidableEq α] [EqD D] (a : α) (as : List α) : ((as.map D).any fun y => PyData.eqv y (D a)) = decide (a ∈ as) := by
  induction as with
  | nil => simp
  | cons b as ih => rw [List.map_cons, List.any_cons, ih, EqD.eqv, ← Bool.decide_or]; exact decide_eq_decide.mpr (by rw [List.mem_cons]; constructor <;> (rintro (h | h); exact .inl h.symm; exact .inr h))
section
variable [DecidableEq α] [EqD D] {n : Nat} [DpD D n] {a : α} {as : List α}
theorem inT (h40 : n ≤ 39) : inD (D a) (tpD D as) = some (decide (a ∈ as)) := by
  simp only [tpD, inD]
  have h1 := okD_of (D := D) (n := n) (by omega) a
  have h2 := okD_of (D := tpD D) (n := n + 1) (by omega) as
  rw [tpD] at h2
  rw [if_pos (by rw [h1, h2]; rfl), any_in]
theorem inL (h40 : n ≤ 39) : inD (D a) (lsD D as) = some (decide (a ∈ as)) := by
  simp only [lsD, inD]
  have h1 := okD_of (D := D) (n := n) (by omega) a
  have h2 := okD_of (D := lsD D) (n := n + 1) (by omega) as
  rw [lsD] at h2
  rw [if_pos (by rw [h1, h2]; rfl), any_in]
theorem te_inT (ha : TE Γ fa ga x Γ1) (hb : TE Γ1 fb gb y Γ2) (hd : x.dat [] = some (D a)) (he : y.dat [] = some (tpD D as)) [hn : BB bb x] (h40 : n ≤ 39) : TE Γ (op2E (cmpK .In) lvC bb fa fb) (ga ∧ gb) (iF bD (decide (a ∈ as))) Γ2 :=
  te_cmp (c := decide (a ∈ as)) ha hb hd he hn.h (by simp only [cmpK, cmpD, inT h40, Option.map_some]) rfl
theorem te_inL (ha : TE Γ fa ga x Γ1) (hb : TE Γ1 fb gb y Γ2) (hd : x.dat [] = some (D a)) (he : y.dat [] = some (lsD D as)) [hn : BB bb x] (h40 : n ≤ 39) : TE Γ (op2E (cmpK .In) lvC bb fa fb) (ga ∧ gb) (iF bD (decide (a ∈ as))) Γ2 :=
  te_cmp (c := decide (a ∈ as)) ha hb hd he hn.h (by simp only [cmpK, cmpD, inL h40, Option.map_some]) rfl
theorem te_niT (ha : TE Γ fa ga x Γ1) (hb : TE Γ1 fb gb y Γ2) (hd : x.dat [] = some (D a)) (he : y.dat [] = some (tpD D as)) [hn : BB bb x] (h40 : n ≤ 39) : TE Γ (op2E (cmpK .NotIn) lvC bb fa fb) (ga ∧ gb) (iF bD (decide (a ∉ as))) Γ2 :=
  te_cmp (c := !decide (a ∈ as)) ha hb hd he hn.h (by simp only [cmpK, cmpD, inT h40, Option.map_some]) (by simp)
theorem te_niL (ha : TE Γ fa ga x Γ1) (hb : TE Γ1 fb gb y Γ2) (hd : x.dat [] = some (D a)) (he : y.dat [] = some (lsD D as)) [hn : BB bb x] (h40 : n ≤ 39) : TE Γ (op2E (cmpK .NotIn) lvC bb fa fb) (ga ∧ gb) (iF bD (decide (a ∉ as))) Γ2 :=
  te_cmp (c := !decide (a ∈ as)) ha hb hd he hn.h (by simp only [cmpK, cmpD, inL h40, Option.map_some]) (by simp)
end
class NnD {α : Type} (D : α → PyData) : Prop where
  nn : ∀ a, D a ≠ .none
instance : NnD nD := ⟨fun _ h => nomatch h⟩
instance : NnD zD := ⟨fun _ h => nomatch h⟩
instance : NnD sD := ⟨fun _ h => nomatch h⟩
instance : NnD bD := ⟨fun _ h => nomatch h⟩
instance : NnD (tpD D) := ⟨fun _ h => nomatch h⟩
instance : NnD (lsD D) := ⟨fun _ h => nomatch h⟩
instance : NnD (p2D D E) := ⟨fun _ h => nomatch h⟩
instance : NnD (p3D D E G) := ⟨fun _ h => nomatch h⟩
theorem cmp_is [NnD D] (o : Option α) : cmpD .Is (oD D o) .none = some o.isNone := by
  cases o with
  | none => rfl
  | some a =>
    have := NnD.nn (D := D) a
    show cmpD .Is (D a) .none = some false
    generalize D a = d at this
    cases d <;> first | rfl | contradiction
theorem cmp_isnot [NnD D] (o : Option α) : cmpD .IsNot (oD D o) .none = some o.isSome := by
  cases o with
  | none => rfl
  | some a =>
    have := NnD.nn (D := D) a
    show cmpD .IsNot (D a) .none = some true
    generalize D a = d at this
    cases d <;> first | rfl | contradiction
theorem te_isN [NnD D] {o : Option α} (ha : TE Γ fa ga (iF (oD D) o) Γ1) (hb : TE Γ1 fb gb (iF uD ()) Γ2) : TE Γ (op2E (cmpK .Is) lvC bb fa fb) (ga ∧ gb) (iF bD o.isNone) Γ2 :=
  te_cmp (c := o.isNone) ha hb rfl rfl (fun _ => rfl) (by simp only [cmpK, uD, cmp_is, Option.map_some]) rfl
theorem te_isnN [NnD D] {o : Option α} (ha : TE Γ fa ga (iF (oD D) o) Γ1) (hb : TE Γ1 fb gb (iF uD ()) Γ2) : TE Γ (op2E (cmpK .IsNot) lvC bb fa fb) (ga ∧ gb) (iF bD o.isSome) Γ2 :=
  te_cmp (c := o.isSome) ha hb rfl rfl (fun _ => rfl) (by simp only [cmpK, uD, cmp_isnot, Option.map_some]) rfl
/-! ### truth values -/
section
variable {p q r : Bool}
theorem te_and (ha : TE Γ fa ga (iF bD p) Γ1) (hb : TE Γ1 fb gb (iF bD q) Γ1) : TE Γ (andE fa fb) (ga ∧ (p = true → gb)) (iF bD (p && q)) Γ1 := fun h sl m => by
  obtain ⟨s1, e1, m1⟩ := ha h.1 sl m
  cases p with
  | false => exact ⟨s1, by simp only [andE, tstR, e1, iF, Res.bind, boolOf, Bool.false_eq_true, if_false, Bool.false_and], m1⟩
  | true =>
    obtain ⟨s2, e2, m2⟩ := hb (h.2 rfl) s1 m1
    exact ⟨s2, by simp only [andE, tstR, e1, iF, Res.bind, boolOf, if_true, e2, Bool.true_and], m2⟩
theorem te_or (ha : TE Γ fa ga (iF bD p) Γ1) (hb : TE Γ1 fb gb (iF bD q) Γ1) : TE Γ (orE fa fb) (ga ∧ (p = false → gb)) (iF bD (p || q)) Γ1 := fun h sl m => by
  obtain ⟨s1, e1, m1⟩ := ha h.1 sl m
  cases p with
  | true => exact ⟨s1, by simp only [orE, tstR, e1, iF, Res.bind, boolOf, if_true, Bool.true_or], m1⟩
  | false =>
    obtain ⟨s2, e2, m2⟩ := hb (h.2 rfl) s1 m1
    exact ⟨s2, by simp only [orE, tstR, e1, iF, Res.bind, boolOf, Bool.false_eq_true, if_false, e2, Bool.false_or], m2⟩
/-- the second one changes the state: S tells it by a value -/
theorem te_andE {σ : Type} (S : σ → List SP) {s t : σ} (ha : TE Γ fa ga (iF bD p) (S s)) (hb : TE (S s) fb gb (iF bD q) (S t)) : TE Γ (andE fa fb) (ga ∧ (p = true → gb)) (iF bD (p && q)) (S (if p then t else s)) := fun h sl m => by
  obtain ⟨s1, e1, m1⟩ := ha h.1 sl m
  cases p with
  | false => exact ⟨s1, by simp only [andE, tstR, e1, iF, Res.bind, boolOf, Bool.false_eq_true, if_false, Bool.false_and], m1⟩
  | true =>
    obtain ⟨s2, e2, m2⟩ := hb (h.2 rfl) s1 m1
    exact ⟨s2, by simp only [andE, tstR, e1, iF, Res.bind, boolOf, if_true, e2, Bool.true_and], m2⟩
theorem te_orE {σ : Type} (S : σ → List SP) {s t : σ} (ha : TE Γ fa ga (iF bD p) (S s)) (hb : TE (S s) fb gb (iF bD q) (S t)) : TE Γ (orE fa fb) (ga ∧ (p = false → gb)) (iF bD (p || q)) (S (if p then s else t)) := fun h sl m => by
  obtain ⟨s1, e1, m1⟩ := ha h.1 sl m
  cases p with
  | true => exact ⟨s1, by simp only [orE, tstR, e1, iF, Res.bind, boolOf, if_true, Bool.true_or], m1⟩
  | false =>
    obtain ⟨s2, e2, m2⟩ := hb (h.2 rfl) s1 m1
    exact ⟨s2, by simp only [orE, tstR, e1, iF, Res.bind, boolOf, Bool.false_eq_true, if_false, e2, Bool.false_or], m2⟩
theorem te_not (ha : TE Γ fa ga (iF bD p) Γ1) : TE Γ (notE fa) ga (iF bD (!p)) Γ1 := fun h sl m => by
  obtain ⟨s1, e1, m1⟩ := ha h sl m
  exact ⟨s1, ev_not e1, m1⟩
theorem tt (ha : TE Γ fa ga (iF bD p) Γ1) : TT Γ (tstE fa) ga p Γ1 := fun h sl m => by
  obtain ⟨s1, e1, m1⟩ := ha h sl m
  exact ⟨s1, ev_tst e1, m1⟩
theorem tt_ty : TT Γ tyE True true Γ := fun _ sl m => ⟨sl, rfl, m⟩
theorem te_ite {K : β → LV} {a b : β} (hc : TE Γ fc gc (iF bD p) Γ1) (ha : TE Γ1 fa ga (K a) Γ2) (hb : TE Γ1 fb gb (K b) Γ2) : TE Γ (iteE fc fa fb) (gc ∧ (p = true → ga) ∧ (p = false → gb)) (K (if p then a else b)) Γ2 := fun h sl m => by
  obtain ⟨s1, e1, m1⟩ := hc h.1 sl m
  cases p with
  | true =>
    obtain ⟨s2, e2, m2⟩ := ha (h.2.1 rfl) s1 m1
    exact ⟨s2, ev_ite e1 (fun _ => e2) (fun z => nomatch z), m2⟩
  | false =>
    obtain ⟨s2, e2, m2⟩ := hb (h.2.2 rfl) s1 m1
    exact ⟨s2, ev_ite e1 (fun z => nomatch z) (fun _ => e2), m2⟩
theorem te_iteE {σ : Type} (S : σ → List SP) {K : β → LV} {a b : β} {s t : σ} (hc : TE Γ fc gc (iF bD p) Γ1) (ha : TE Γ1 fa ga (K a) (S s)) (hb : TE Γ1 fb gb (K b) (S t)) : TE Γ (iteE fc fa fb) (gc ∧ (p = true → ga) ∧ (p = false → gb)) (K (if p then a else b)) (S (if p then s else t)) := fun h sl m => by
  obtain ⟨s1, e1, m1⟩ := hc h.1 sl m
  cases p with
  | true =>
    obtain ⟨s2, e2, m2⟩ := ha (h.2.1 rfl) s1 m1
    exact ⟨s2, ev_ite e1 (fun _ => e2) (fun z => nomatch z), m2⟩
  | false =>
    obtain ⟨s2, e2, m2⟩ := hb (h.2.2 rfl) s1 m1
    exact ⟨s2, ev_ite e1 (fun z => nomatch z) (fun _ => e2), m2⟩
end
/-! ### items -/
section
variable [Inhabited α] {as : List α} {n : Nat}
theorem at_map (h : n < as.length) : (as.map D)[n]? = some (D (as.getD n default)) := by
  rw [List.getElem?_map, List.getElem?_eq_getElem h, List.getD_eq_getElem?_getD, List.getElem?_eq_getElem h]; rfl
theorem te_ixT (ha : TE Γ fa ga (iF (tpD D) as) Γ1) (hb : TE Γ1 fb gb (iF nD n) Γ2) : TE Γ (op2E ixK lvB bb fa fb) (ga ∧ gb ∧ n < as.length) (iF D (as.getD n default)) Γ2 :=
  te_op ha hb rfl rfl (fun _ => rfl) (fun h => ixK_tup (at_map h)) rfl
theorem te_ixTn [ImD D] (ha : TE Γ fa ga (nF (tpD D) as) Γ1) (hb : TE Γ1 fb gb (iF nD n) Γ2) [hn : BB bb ((nF (tpD D) as))] : TE Γ (op2E ixK lvB bb fa fb) (ga ∧ gb ∧ n < as.length) (iF D (as.getD n default)) Γ2 :=
  te_op ha hb rfl rfl hn.h (fun h => ixK_tup (at_map h)) (lvB_im (ImD.im _))
theorem te_ixI (ha : TE Γ fa ga (iF (lsD D) as) Γ1) (hb : TE Γ1 fb gb (iF nD n) Γ2) : TE Γ (op2E ixK lvB bb fa fb) (ga ∧ gb ∧ n < as.length) (iF D (as.getD n default)) Γ2 :=
  te_op ha hb rfl rfl (fun _ => rfl) (fun h => ixK_lst (at_map h)) rfl
theorem te_ixL [ImD D] (ha : TE Γ fa ga (nF (lsD D) as) Γ1) (hb : TE Γ1 fb gb (iF nD n) Γ2) [hn : BB bb ((nF (lsD D) as))] : TE Γ (op2E ixK lvB bb fa fb) (ga ∧ gb ∧ n < as.length) (iF D (as.getD n default)) Γ2 :=
  te_op ha hb rfl rfl hn.h (fun h => ixK_lst (at_map h)) (lvB_im (ImD.im _))
theorem te_ixLn [NiD D] (ha : TE Γ fa ga (nF (lsD D) as) Γ1) (hb : TE Γ1 fb gb (iF nD n) Γ2) [hn : BB bb ((nF (lsD D) as))] : TE Γ (op2E ixK lvB bb fa fb) (ga ∧ gb ∧ n < as.length) (nF D (as.getD n default)) Γ2 :=
  te_op ha hb rfl rfl hn.h (fun h => ixK_lst (at_map h)) (mkImm_ni (NiD.ni _))
/-- a list just made -/
theorem te_ixF [FlF F D] (ha : TE Γ fa ga (lF F as) Γ1) (hb : TE Γ1 fb gb (iF nD n) Γ2) : TE Γ (op2E ixK lvB bb fa fb) (ga ∧ gb ∧ n < as.length) (iF D (as.getD n default)) Γ2 :=
  te_op ha hb (vl as) rfl (fun _ => FlF.nl (F := lF F) as) (fun h => ixK_lst (at_map h)) (by
    simp only [lvB, RK.lv, lh_lst, iF]; rfl)
theorem atI_z {β : Type} {xs : List β} {z : Int} {y : β} (h0 : 0 ≤ z) (h : xs[z.toNat]? = some y) : atI xs z = some y := by
  have := atI_nat (k := z.toNat) h
  rwa [Int.toNat_of_nonneg h0] at this
theorem te_ixTz {z : Int} (ha : TE Γ fa ga (iF (tpD D) as) Γ1) (hb : TE Γ1 fb gb (iF zD z) Γ2) : TE Γ (op2E ixK lvB bb fa fb) (ga ∧ gb ∧ (0 ≤ z ∧ z.toNat < as.length)) (iF D (as.getD z.toNat default)) Γ2 :=
  te_op (r := .dat (D (as.getD z.toNat default))) ha hb rfl rfl (fun _ => rfl) (fun h => by simp only [ixK, ixD, tpD, zD, atI_z h.1 (at_map h.2), Option.map_some]) rfl
theorem te_ixLz [ImD D] {z : Int} (ha : TE Γ fa ga (nF (lsD D) as) Γ1) (hb : TE Γ1 fb gb (iF zD z) Γ2) [hn : BB bb ((nF (lsD D) as))] : TE Γ (op2E ixK lvB bb fa fb) (ga ∧ gb ∧ (0 ≤ z ∧ z.toNat < as.length)) (iF D (as.getD z.toNat default)) Γ2 :=
  te_op (r := .dat (D (as.getD z.toNat default))) ha hb rfl rfl hn.h (fun h => by simp only [ixK, ixD, lsD, zD, atI_z h.1 (at_map h.2), Option.map_some]) (lvB_im (ImD.im _))
/-- the last one -/
theorem atI_last {β : Type} {xs : List β} (h : xs ≠ []) (d : β) : atI xs (-1) = some (xs.getLastD d) := by
  obtain ⟨ys, y, rfl⟩ : ∃ ys y, xs = ys ++ [y] := ⟨xs.dropLast, xs.getLast h, (List.dropLast_concat_getLast h).symm⟩
  simp only [atI, ixN]
  rw [if_neg (by decide), if_pos (by simp only [List.length_append, List.length_singleton]; omega)]
  have : ((-1 : Int) + ((ys ++ [y]).length : Nat)).toNat = ys.length := by simp only [List.length_append, List.length_singleton]; omega
  simp only [this, Option.bind_some]
  simp
theorem last_map (h : as ≠ []) : (as.map D).getLastD (D default) = D (as.getLastD default) := by
  obtain ⟨ys, y, rfl⟩ : ∃ ys y, as = ys ++ [y] := ⟨as.dropLast, as.getLast h, (List.dropLast_concat_getLast h).symm⟩
  simp
theorem te_ixTl {z : Int} (ha : TE Γ fa ga (iF (tpD D) as) Γ1) (hb : TE Γ1 fb gb (iF zD z) Γ2) (hz : z = -1) : TE Γ (op2E ixK lvB bb fa fb) (ga ∧ gb ∧ as ≠ []) (iF D (as.getLastD default)) Γ2 :=
  te_op (r := .dat (D (as.getLastD default))) ha hb rfl rfl (fun _ => rfl) (fun h => by
    have h' : as.map D ≠ [] := by simpa using h
    simp only [ixK, ixD, tpD, zD, hz, atI_last h' (D default), last_map h, Option.map_some]) rfl
theorem te_ixLl [ImD D] {z : Int} (ha : TE Γ fa ga (nF (lsD D) as) Γ1) (hb : TE Γ1 fb gb (iF zD z) Γ2) [hn : BB bb ((nF (lsD D) as))] (hz : z = -1) : TE Γ (op2E ixK lvB bb fa fb) (ga ∧ gb ∧ as ≠ []) (iF D (as.getLastD default)) Γ2 :=
  te_op (r := .dat (D (as.getLastD default))) ha hb rfl rfl hn.h (fun h => by
    have h' : as.map D ≠ [] := by simpa using h
    simp only [ixK, ixD, lsD, zD, hz, atI_last h' (D default), last_map h, Option.map_some]) (lvB_im (ImD.im _))
end
/-- an item of a pair, of three -/
theorem te_p0 {p : α × β} (ha : TE Γ fa ga (iF (p2D D E) p) Γ1) (hb : TE Γ1 fb gb (iF nD 0) Γ2) : TE Γ (op2E ixK lvB bb fa fb) (ga ∧ gb) (iF D p.1) Γ2 := te_op0 ha hb rfl rfl (fun _ => rfl) (ixK_tup (k := 0) rfl) rfl
theorem te_p1 {p : α × β} (ha : TE Γ fa ga (iF (p2D D E) p) Γ1) (hb : TE Γ1 fb gb (iF nD 1) Γ2) : TE Γ (op2E ixK lvB bb fa fb) (ga ∧ gb) (iF E p.2) Γ2 := te_op0 ha hb rfl rfl (fun _ => rfl) (ixK_tup (k := 1) rfl) rfl
theorem te_t0 {p : α × β × γ} (ha : TE Γ fa ga (iF (p3D D E G) p) Γ1) (hb : TE Γ1 fb gb (iF nD 0) Γ2) : TE Γ (op2E ixK lvB bb fa fb) (ga ∧ gb) (iF D p.1) Γ2 := te_op0 ha hb rfl rfl (fun _ => rfl) (ixK_tup (k := 0) rfl) rfl
theorem te_t1 {p : α × β × γ} (ha : TE Γ fa ga (iF (p3D D E G) p) Γ1) (hb : TE Γ1 fb gb (iF nD 1) Γ2) : TE Γ (op2E ixK lvB bb fa fb) (ga ∧ gb) (iF E p.2.1) Γ2 := te_op0 ha hb rfl rfl (fun _ => rfl) (ixK_tup (k := 1) rfl) rfl
theorem te_t2 {p : α × β × γ} (ha : TE Γ fa ga (iF (p3D D E G) p) Γ1) (hb : TE Γ1 fb gb (iF nD 2) Γ2) : TE Γ (op2E ixK lvB bb fa fb) (ga ∧ gb) (iF G p.2.2) Γ2 := te_op0 ha hb rfl rfl (fun _ => rfl) (ixK_tup (k := 2) rfl) rfl
/-! ### displays, built-ins -/
theorem ta_n : TA Γ nilA True [] Γ := fun _ sl m => ⟨sl, rfl, m⟩
theorem ta_c (ha : TE Γ fa ga x Γ1) (hb : TA Γ1 gB gb xs Γ2) [hn : BB bb x] : TA Γ (consA bb fa gB) (ga ∧ gb) (x :: xs) Γ2 := fun q sl m => by
  obtain ⟨s1, e1, m1⟩ := ha q.1 sl m
  obtain ⟨s2, e2, m2⟩ := hb q.2 s1 m1
  exact ⟨s2, ev_consA e1 e2 hn.h, m2⟩
/-- items of one sort -/
theorem ta_nH (F : α → LV) : TA Γ nilA True (([] : List α).map F) Γ := fun _ sl m => ⟨sl, rfl, m⟩
theorem ta_cH {a : α} {as : List α} (ha : TE Γ fa ga (F a) Γ1) (hb : TA Γ1 gB gb (as.map F) Γ2) [hn : BB bb ((F a))] : TA Γ (consA bb fa gB) (ga ∧ gb) ((a :: as).map F) Γ2 := ta_c ha hb
theorem ta_sT {as bs : List α} (ha : TE Γ fa ga (iF (tpD D) as) Γ1) (hb : TA Γ1 gB gb (bs.map (iF D)) Γ2) : TA Γ (starI bb fa gB) (ga ∧ gb) ((as ++ bs).map (iF D)) Γ2 := fun q sl m => by
  obtain ⟨s1, e1, m1⟩ := ha q.1 sl m
  obtain ⟨s2, e2, m2⟩ := hb q.2 s1 m1
  refine ⟨s2, ?_, m2⟩
  rw [ev_star e1 (xs := as.map (iF D)) (by simp only [iF, tpD, starD, List.map_map]; rfl) e2 (fun _ => rfl), List.map_append]
theorem ta_sI {as bs : List α} (ha : TE Γ fa ga (iF (lsD D) as) Γ1) (hb : TA Γ1 gB gb (bs.map (iF D)) Γ2) : TA Γ (starI bb fa gB) (ga ∧ gb) ((as ++ bs).map (iF D)) Γ2 := fun q sl m => by
  obtain ⟨s1, e1, m1⟩ := ha q.1 sl m
  obtain ⟨s2, e2, m2⟩ := hb q.2 s1 m1
  refine ⟨s2, ?_, m2⟩
  rw [ev_star e1 (xs := as.map (iF D)) (by simp only [iF, lsD, starD, List.map_map]; rfl) e2 (fun _ => rfl), List.map_append]
theorem ta_sL [ImD D] {as bs : List α} (ha : TE Γ fa ga (nF (lsD D) as) Γ1) (hb : TA Γ1 gB gb (bs.map (iF D)) Γ2) [hn : BB bb ((nF (lsD D) as))] : TA Γ (starI bb fa gB) (ga ∧ gb) ((as ++ bs).map (iF D)) Γ2 := fun q sl m => by
  obtain ⟨s1, e1, m1⟩ := ha q.1 sl m
  obtain ⟨s2, e2, m2⟩ := hb q.2 s1 m1
  refine ⟨s2, ?_, m2⟩
  rw [ev_star e1 (xs := as.map (iF D)) (by
    simp only [nF, lsD, starD, List.map_map]
    exact congrArg some (List.map_congr_left fun a _ => mkImm_im (b := true) (ImD.im a))) e2 hn.h, List.map_append]
theorem te_tp {d : PyData} (ha : TA Γ gA ga xs Γ1) (hz : mkTup xs = .imm d) (hl : xs.length ≤ sizeLine := by decide) : TE Γ (tupE gA) ga (.imm d) Γ1 := fun q sl m => by
  obtain ⟨s1, e1, m1⟩ := ha q sl m
  exact ⟨s1, ev_tup e1 hl hz, m1⟩
theorem le_small {n : Nat} (h : n ≤ 1000) : n ≤ sizeLine := by unfold sizeLine; omega
theorem te_tp2 {a : α} {b : β} (ha : TA Γ gA ga [iF D a, iF E b] Γ1) : TE Γ (tupE gA) ga (iF (p2D D E) (a, b)) Γ1 := te_tp ha rfl (le_small (by simp))
theorem te_tp3 {a : α} {b : β} {c : γ} (ha : TA Γ gA ga [iF D a, iF E b, iF G c] Γ1) : TE Γ (tupE gA) ga (iF (p3D D E G) (a, b, c)) Γ1 := te_tp ha rfl (le_small (by simp))
theorem te_tp4 {a : α} {b : β} {c : γ} {d : δ} (ha : TA Γ gA ga [iF D a, iF E b, iF G c, iF H d] Γ1) : TE Γ (tupE gA) ga (iF (p4D D E G H) (a, b, c, d)) Γ1 := te_tp ha rfl (le_small (by simp))
theorem allImm_map : ∀ as : List α, mkTup.allImm (as.map (iF D)) = some (as.map D)
  | [] => rfl
  | a :: as => by rw [List.map_cons, iF, mkTup.allImm, allImm_map as]; rfl
theorem te_tpH {as : List α} (ha : TA Γ gA ga (as.map (iF D)) Γ1) : TE Γ (tupE gA) (ga ∧ as.length ≤ sizeLine) (iF (tpD D) as) Γ1 := fun q sl m => by
  obtain ⟨s1, e1, m1⟩ := ha q.1 sl m
  exact ⟨s1, ev_tup e1 (by rw [List.length_map]; exact q.2) (by rw [mkTup, allImm_map]; rfl), m1⟩
theorem te_lsH {as : List α} (ha : TA Γ gA ga (as.map F) Γ1) : TE Γ (lstE gA) (ga ∧ as.length ≤ sizeLine) (lF F as) Γ1 := fun q sl m => by
  obtain ⟨s1, e1, m1⟩ := ha q.1 sl m
  exact ⟨s1, ev_lst e1 (by rw [List.length_map]; exact q.2), m1⟩
/-- few items -/
theorem te_ls0 (F : α → LV) : TE Γ (lstE nilA) True (lF F []) Γ := fun q sl m => ⟨sl, rfl, m⟩
theorem te_ls {as : List α} (ha : TA Γ gA ga (as.map F) Γ1) (hl : as.length ≤ 1000) : TE Γ (lstE gA) ga (lF F as) Γ1 := fun q => te_lsH ha ⟨q, le_small hl⟩
theorem te_tpf {as : List α} (ha : TA Γ gA ga (as.map (iF D)) Γ1) (hl : as.length ≤ 1000) : TE Γ (tupE gA) ga (iF (tpD D) as) Γ1 := fun q => te_tpH ha ⟨q, le_small hl⟩
theorem te_bi1 {f : List PyData → Option RK} {r : RK} (ha : TE Γ fa ga x Γ1) (hd : x.dat [] = some d) (hg : gc → f [d] = some r) (hz : r.lv x.lh = z) [hn : BB bb x] : TE Γ (biE f (consA bb fa nilA)) (ga ∧ gc) z Γ1 := fun q sl m => by
  obtain ⟨s1, e1, m1⟩ := ha q.1 sl m
  refine ⟨s1, ev_bi (ev_consA e1 ev_nilA hn.h) (datsOf_cons hd datsOf_nil) (hg q.2) ?_, m1⟩
  rw [show lhs [x] = x.lh by simp [lhs]]
  exact hz
theorem te_bi0 {f : List PyData → Option RK} {r : RK} (ha : TE Γ fa ga x Γ1) (hd : x.dat [] = some d) (hg : f [d] = some r) (hz : r.lv x.lh = z) [hn : BB bb x] : TE Γ (biE f (consA bb fa nilA)) ga z Γ1 := fun q => te_bi1 (gc := True) ha hd (fun _ => hg) hz ⟨q, trivial⟩
theorem te_lenT {as : List α} (ha : TE Γ fa ga x Γ1) (hd : x.dat [] = some (tpD D as)) : TE Γ (biE (biD .len) (consA false fa nilA)) ga (iF nD as.length) Γ1 := te_bi0 ha hd (by simp only [tpD, biD, List.length_map]) rk_int
theorem te_lenL {as : List α} (ha : TE Γ fa ga x Γ1) (hd : x.dat [] = some (lsD D as)) : TE Γ (biE (biD .len) (consA false fa nilA)) ga (iF nD as.length) Γ1 := te_bi0 ha hd (by simp only [lsD, biD, List.length_map]) rk_int
theorem asInts_n : ∀ as : List Nat, asInts (as.map nD) = some (as.map fun (n : Nat) => (n : Int))
  | [] => rfl
  | a :: as => by simp only [List.map_cons, nD, asInts, asInts_n as, Option.map_some]
theorem sum_n : ∀ as : List Nat, (as.map fun (n : Nat) => (n : Int)).sum = ((as.sum : Nat) : Int)
  | [] => rfl
  | a :: as => by rw [List.map_cons, List.sum_cons, List.sum_cons, sum_n as]; omega
theorem te_sumN {as : List Nat} (ha : TE Γ fa ga x Γ1) (hd : x.dat [] = some (lsD nD as)) : TE Γ (biE (biD .sum) (consA false fa nilA)) ga (iF nD as.sum) Γ1 := te_bi0 ha hd (by simp only [lsD, biD, asInts_n, Option.map_some, sum_n]) rk_int
theorem asInts_z : ∀ as : List Int, asInts (as.map zD) = some as
  | [] => rfl
  | a :: as => by simp only [List.map_cons, zD, asInts, asInts_z as, Option.map_some]
theorem te_sumZ {as : List Int} (ha : TE Γ fa ga x Γ1) (hd : x.dat [] = some (lsD zD as)) : TE Γ (biE (biD .sum) (consA false fa nilA)) ga (iF zD as.sum) Γ1 := te_bi0 ha hd (by simp only [lsD, biD, asInts_z, Option.map_some]) rk_int
theorem asBools_b : ∀ as : List Bool, asBools (as.map bD) = some as
  | [] => rfl
  | a :: as => by simp only [List.map_cons, bD, asBools, asBools_b as, Option.map_some]
theorem te_all {as : List Bool} (ha : TE Γ fa ga x Γ1) (hd : x.dat [] = some (lsD bD as)) : TE Γ (biE (biD .all) (consA false fa nilA)) ga (iF bD (as.all id)) Γ1 := te_bi0 ha hd (by simp only [lsD, biD, asBools_b, Option.map_some]) rk_bool
theorem te_tupT [ImD D] {as : List α} (ha : TE Γ fa ga x Γ1) (hd : x.dat [] = some (tpD D as)) : TE Γ (biE (biD .tuple) (consA false fa nilA)) ga (iF (tpD D) as) Γ1 := te_bi0 (r := .dat (tpD D as)) ha hd (by simp only [tpD, biD]) (by
  exact mkImm_im (ImD.im (D := tpD D) as))
theorem te_tupL [ImD D] {as : List α} (ha : TE Γ fa ga x Γ1) (hd : x.dat [] = some (lsD D as)) : TE Γ (biE (biD .tuple) (consA false fa nilA)) ga (iF (tpD D) as) Γ1 := te_bi0 (r := .dat (tpD D as)) ha hd (by simp only [lsD, tpD, biD]) (by
  exact mkImm_im (ImD.im (D := tpD D) as))
/-- a list just made whose items hold lists -/
theorem te_tupF [FlF F D] {as : List α} (ha : TE Γ fa ga (lF F as) Γ1) : TE Γ (biE (biD .tuple) (consA false fa nilA)) ga (iF (tpD D) as) Γ1 := te_bi0 (r := .dat (tpD D as)) ha (vl as) (by simp only [lsD, tpD, biD]) (by
  rw [lh_lst]; rfl)
theorem lv_nl [ImD D] {b : Bool} (as : List α) : (RK.nl (as.map D)).lv b = lF (iF D) as := by
  simp only [RK.lv, lF, List.map_map]
  exact congrArg LV.lst (List.map_congr_left fun a _ => mkImm_im (ImD.im a))
theorem te_lstT [ImD D] {as : List α} (ha : TE Γ fa ga x Γ1) (hd : x.dat [] = some (tpD D as)) : TE Γ (biE (biD .list) (consA false fa nilA)) ga (lF (iF D) as) Γ1 := te_bi0 (r := .nl (as.map D)) ha hd (by simp only [tpD, biD]) (lv_nl as)
theorem te_lstL [ImD D] {as : List α} (ha : TE Γ fa ga x Γ1) (hd : x.dat [] = some (lsD D as)) : TE Γ (biE (biD .list) (consA false fa nilA)) ga (lF (iF D) as) Γ1 := te_bi0 (r := .nl (as.map D)) ha hd (by simp only [lsD, biD]) (lv_nl as)
theorem te_intN {n : Nat} (ha : TE Γ fa ga (iF nD n) Γ1) : TE Γ (biE (biD .int) (consA false fa nilA)) ga (iF nD n) Γ1 := te_bi0 ha rfl rfl rk_int
theorem te_intZ {n : Int} (ha : TE Γ fa ga (iF zD n) Γ1) : TE Γ (biE (biD .int) (consA false fa nilA)) ga (iF zD n) Γ1 := te_bi0 ha rfl rfl rk_int
theorem te_absZ {n : Int} (ha : TE Γ fa ga (iF zD n) Γ1) : TE Γ (biE (biD .abs) (consA false fa nilA)) ga (iF nD n.natAbs) Γ1 := te_bi0 ha rfl rfl rk_int
/-- what can be shown -/
def RO (d : PyData) : Prop := biD .repr [d] = some (.dat (.str d.shown))
theorem te_repr {a : α} (ha : TE Γ fa ga x Γ1) (hd : x.dat [] = some (D a)) : TE Γ (biE (biD .repr) (consA false fa nilA)) (ga ∧ RO (D a)) (iF sD (D a).shown) Γ1 := te_bi1 ha hd (fun h => h) rk_str
/-! ### sorted -/
class OrD {α : Type} (D : α → PyData) (le : outParam (α → α → Bool)) : Prop where
  le : ∀ a b, PySem.W.dataLe false id (D a) (D b) = le a b
  so : ∀ xs : List α, sortable (xs.map D) = true
theorem te_sorted [ImD D] {le : α → α → Bool} [OrD D le] {as : List α} (ha : TE Γ fa ga x Γ1) (hd : x.dat [] = some (lsD D as)) : TE Γ (biE (biD .sorted) (consA false fa nilA)) (ga ∧ as.length ≤ sizeLine) (lF (iF D) (as.mergeSort le)) Γ1 :=
  te_bi1 (r := .nl (sortD (as.map D))) ha hd (fun h => by
    have h : (as.map D).length ≤ sizeLine := by rw [List.length_map]; exact h
    simp only [lsD, biD, OrD.so as, h, decide_true, Bool.and_self, if_true]) (by
    have : sortD (as.map D) = (as.mergeSort le).map D := by
      rw [sortD, List.map_mergeSort (r := le) (s := PySem.W.dataLe false id) (fun a _ b _ => (OrD.le (D := D) a b).symm)]
    rw [this]; exact lv_nl _)
/-! ### slices, index -/
theorem to_n : TO Γ noO True none Γ := fun _ sl m => ⟨sl, rfl, m⟩
theorem to_N {n : Nat} (ha : TE Γ fa ga (iF nD n) Γ1) : TO Γ (intO fa) ga (some (n : Int)) Γ1 := fun q sl m => by
  obtain ⟨s1, e1, m1⟩ := ha q sl m
  exact ⟨s1, ev_intO e1, m1⟩
theorem to_Z {n : Int} (ha : TE Γ fa ga (iF zD n) Γ1) : TO Γ (intO fa) ga (some n) Γ1 := fun q sl m => by
  obtain ⟨s1, e1, m1⟩ := ha q sl m
  exact ⟨s1, ev_intO e1, m1⟩
theorem cut_map (as : List α) (lo hi : Option Int) : MP.cutD (as.map D) lo hi = (MP.cutD as lo hi).map D := by simp [MP.cutD, List.map_take, List.map_drop]
theorem te_slT {as : List α} {lo hi : Option Int} (ha : TE Γ fa ga (iF (tpD D) as) Γ1) (hl : TO Γ1 fl gb lo Γ2) (hh : TO Γ2 fh gc hi Γ3) : TE Γ (slE false fa fl fh) (ga ∧ gb ∧ gc) (iF (tpD D) (MP.cutD as lo hi)) Γ3 := fun q sl m => by
  obtain ⟨s1, e1, m1⟩ := ha q.1 sl m
  obtain ⟨s2, e2, m2⟩ := hl q.2.1 s1 m1
  obtain ⟨s3, e3, m3⟩ := hh q.2.2 s2 m2
  exact ⟨s3, ev_sl (r := .dat (tpD D (MP.cutD as lo hi))) e1 e2 e3 rfl (by simp only [tpD, slD, cut_map]) rfl, m3⟩
theorem te_slL [ImD D] {as : List α} {lo hi : Option Int} (ha : TE Γ fa ga x Γ1) (hd : x.dat [] = some (lsD D as)) (hl : TO Γ1 fl gb lo Γ2) (hh : TO Γ2 fh gc hi Γ3) : TE Γ (slE false fa fl fh) (ga ∧ gb ∧ gc) (lF (iF D) (MP.cutD as lo hi)) Γ3 := fun q sl m => by
  obtain ⟨s1, e1, m1⟩ := ha q.1 sl m
  obtain ⟨s2, e2, m2⟩ := hl q.2.1 s1 m1
  obtain ⟨s3, e3, m3⟩ := hh q.2.2 s2 m2
  exact ⟨s3, ev_sl (r := .nl ((MP.cutD as lo hi).map D)) e1 e2 e3 hd (by simp only [lsD, slD, cut_map]) (lv_nl _), m3⟩
theorem idx_cast (k : Nat) : ∀ r : List Nat, (r.map fun (x : Nat) => (x : Int)).idxOf (k : Int) = r.idxOf k
  | [] => rfl
  | x :: r => by
    rw [List.map_cons, List.idxOf_cons, List.idxOf_cons, idx_cast k r]
    by_cases h : x = k
    · subst h; simp
    · have h1 : ((x : Int) == (k : Int)) = false := by simp; omega
      have h2 : (x == k) = false := by simp [h]
      rw [h1, h2]
theorem te_index {as : List Nat} {k : Nat} (ha : TE Γ fa ga x Γ1) (hb : TA Γ1 gA gb [iF nD k] Γ2) (hd : rdL x = some (as.map nD)) [hn : BB bb x] : TE Γ (idxE bb fa gA) (ga ∧ gb ∧ k ∈ as) (iF nD (as.idxOf k)) Γ2 := fun q sl m => by
  obtain ⟨s1, e1, m1⟩ := ha q.1 sl m
  obtain ⟨s2, e2, m2⟩ := hb q.2.1 s1 m1
  refine ⟨s2, ?_, m2⟩
  have := ev_idx e1 hn.h hd e2 (asInts_n as) (k := (k : Int)) (by rw [List.mem_map]; exact ⟨k, q.2.2, rfl⟩)
  rw [idx_cast] at this
  exact this
end
end TL
/-! TL.2: what is walked, comprehensions, calls, changes, statements, defs -/
namespace TL
open PySem PySem.Spec PyProof.Rows L2 MP
section
variable {α : Type} {D : α → PyData} {F : α → LV}
instance nlg_set {Γ : List SP} {p : SP} {i : Nat} [NlG Γ] [NlP p] : NlG (Γ.set i p) := ⟨fun sl m => by
  have key : ∀ (Γ : List SP) (i : Nat) (sl : List (Option LV)), (∀ sl, MtL Γ sl → nlS sl = true) → MtL (Γ.set i p) sl → nlS sl = true := by
    intro Γ
    induction Γ with
    | nil => intro i sl h m; exact h sl m
    | cons q Γ ih =>
      intro i sl h m
      cases i with
      | zero =>
        cases m with
        | cons a b =>
          rename_i o os
          by_cases e : ∃ o', q.ok o'
          · obtain ⟨o', e⟩ := e
            have := h (o' :: os) (.cons e b)
            have t : nlS os = true := by
              cases o' with
              | none => exact this
              | some x => simp only [nlS, Bool.and_eq_true] at this; exact this.2
            cases o with
            | none => exact t
            | some x => simp only [nlS, NlP.nl _ a x rfl, t, Bool.and_self]
          · exact absurd ⟨none, by
              cases q with
              | is x => exact absurd ⟨some x, rfl⟩ e
              | cl => exact .inl rfl
              | jk => exact fun x h => nomatch h
              | any => trivial⟩ e
      | succ i =>
        cases m with
        | cons a b =>
          rename_i o os
          have hq : ∀ x, o = some x → x.nl = true := fun x ex => by
            by_cases e : ∃ t, MtL Γ t
            · obtain ⟨t, e⟩ := e
              have := h (o :: t) (.cons a e)
              rw [ex] at this
              simp only [nlS, Bool.and_eq_true] at this
              exact this.1
            · refine absurd ?_ e
              have : ∀ Γ : List SP, ∃ t, MtL Γ t := by
                intro Γ
                induction Γ with
                | nil => exact ⟨[], .nil⟩
                | cons q Γ ih =>
                  obtain ⟨t, ih⟩ := ih
                  cases q with
                  | is x => exact ⟨some x :: t, .cons rfl ih⟩
                  | cl => exact ⟨none :: t, .cons (.inl rfl) ih⟩
                  | jk => exact ⟨none :: t, .cons (fun x h => nomatch h) ih⟩
                  | any => exact ⟨none :: t, .cons trivial ih⟩
              exact this Γ
          have t : nlS os = true := ih i os (fun sl m => by
            have := h (o :: sl) (.cons a m)
            cases o with
            | none => exact this
            | some x => simp only [nlS, Bool.and_eq_true] at this; exact this.2) b
          cases o with
          | none => exact t
          | some x => simp only [nlS, hq x rfl, t, Bool.and_self]
  exact key Γ i sl (fun sl m => NlG.nl sl m) m⟩
end
/-! ### what is walked -/
section
variable {α β γ δ ρ : Type} {D : α → PyData} {E : β → PyData} {G : γ → PyData} {F : α → LV}
variable {Γ Γ1 Γ2 Γ3 Δ : List SP} {fa fb fc : EvF} {gA gB : LS → Res (List LV × LS)} {gC : LS → Res (List AV × LS)} {ft : LS → Res (Bool × LS)} {fi : ItF} {fp : LS → Res (List PyData)} {g ga gb gc gd : Prop} {x y z : LV} {xs ys : List LV} {bb be : Bool} {d e : PyData} {i j : Nat}
theorem mapF (as : List α) : (as.map D).map LV.imm = as.map (iF D) := by rw [List.map_map]; rfl
theorem ti_T {as : List α} (ha : TE Γ fa g (iF (tpD D) as) Γ1) : TI Γ (itP fa) g (iF D) as false Γ1 := fun q sl m => by
  obtain ⟨s1, e1, m1⟩ := ha q sl m
  exact ⟨s1, by rw [ev_itP e1 (d := tpD D as) rfl (ds := as.map D) rfl rfl, mapF], m1⟩
theorem ti_I {as : List α} (ha : TE Γ fa g (iF (lsD D) as) Γ1) : TI Γ (itP fa) g (iF D) as false Γ1 := fun q sl m => by
  obtain ⟨s1, e1, m1⟩ := ha q sl m
  exact ⟨s1, by rw [ev_itP e1 (d := lsD D as) rfl (ds := as.map D) rfl rfl, mapF], m1⟩
theorem ti_L [ImD D] {as : List α} (ha : TE Γ fa g (nF (lsD D) as) Γ1) : TI Γ (itP fa) g (iF D) as true Γ1 := fun q sl m => by
  obtain ⟨s1, e1, m1⟩ := ha q sl m
  refine ⟨s1, ?_, m1⟩
  rw [ev_itPl e1 (d := lsD D as) rfl (ds := as.map D) rfl, List.map_map]
  have : as.map (mkImm (nF (lsD D) as).lh ∘ D) = as.map (iF D) := List.map_congr_left fun a _ => mkImm_im (ImD.im a)
  rw [this]; rfl
theorem ti_F [FlF F D] {as : List α} (ha : TE Γ fa g (lF F as) Γ1) : TI Γ (itP fa) g (iF D) as false Γ1 := fun q sl m => by
  obtain ⟨s1, e1, m1⟩ := ha q sl m
  exact ⟨s1, by rw [ev_itP e1 (vl as) (ds := as.map D) rfl (lh_lst as), mapF], m1⟩
theorem rng_n (n : Nat) : rangeD 0 (n : Int) = (List.range n).map nD := by
  simp only [rangeD, Int.sub_zero, Int.toNat_natCast]
  exact List.map_congr_left fun k _ => by rw [Int.zero_add]
theorem rng_z (z : Int) : rangeD 0 z = (List.range z.toNat).map nD := by
  simp only [rangeD, Int.sub_zero]
  exact List.map_congr_left fun k _ => by rw [Int.zero_add]
theorem rng_2 (a b : Nat) : rangeD (a : Int) (b : Int) = (List.range' a (b - a)).map nD := by
  simp only [rangeD]
  rw [show ((b : Int) - a).toNat = b - a by omega, List.range'_eq_map_range, List.map_map]
  exact List.map_congr_left fun k _ => by simp only [Function.comp_apply, nD]; congr 1
theorem ti_r1 {n : Nat} (ha : TA Γ gA g [iF nD n] Γ1) : TI Γ (itR true gA) (g ∧ n < 2 ^ 62) (iF nD) (List.range n) false Γ1 := fun q sl m => by
  obtain ⟨s1, e1, m1⟩ := ha q.1 sl m
  exact ⟨s1, by rw [ev_itR1 e1 (by simp only [small62, decide_eq_true_eq]; have := q.2; omega), rng_n, mapF], m1⟩
theorem ti_r1z {n : Int} (ha : TA Γ gA g [iF zD n] Γ1) : TI Γ (itR true gA) (g ∧ (-(2 ^ 62) ≤ n ∧ n < 2 ^ 62)) (iF nD) (List.range n.toNat) false Γ1 := fun q sl m => by
  obtain ⟨s1, e1, m1⟩ := ha q.1 sl m
  exact ⟨s1, by rw [ev_itR1 e1 (by simp only [small62, decide_eq_true_eq]; exact q.2), rng_z, mapF], m1⟩
theorem ti_r2 {a b : Nat} (ha : TA Γ gA g [iF nD a, iF nD b] Γ1) : TI Γ (itR false gA) (g ∧ (a < 2 ^ 62 ∧ b < 2 ^ 62)) (iF nD) (List.range' a (b - a)) false Γ1 := fun q sl m => by
  obtain ⟨s1, e1, m1⟩ := ha q.1 sl m
  exact ⟨s1, by rw [ev_itR2 e1 (by simp only [small62, decide_eq_true_eq]; have := q.2.1; omega) (by simp only [small62, decide_eq_true_eq]; have := q.2.2; omega), rng_2, mapF], m1⟩
/-- places and items -/
def enT : Nat → List α → List (Nat × α)
  | _, [] => []
  | n, a :: as => (n, a) :: enT (n + 1) as
theorem enum_map : ∀ (as : List α) (n : Nat), enumD n (as.map D) = (enT n as).map (p2D nD D)
  | [], _ => rfl
  | a :: as, n => by rw [List.map_cons, enumD, enum_map as, enT, List.map_cons]; rfl
theorem zip_map : ∀ (as : List α) (bs : List β), zipD (as.map D) (bs.map E) = (as.zip bs).map (p2D D E)
  | [], _ => rfl
  | _ :: _, [] => rfl
  | a :: as, b :: bs => by rw [List.map_cons, List.map_cons, zipD, zip_map as bs]; rfl
theorem mk_map [ImD D] (b : Bool) (as : List α) : (as.map D).map (mkImm b) = as.map (iF D) := by
  rw [List.map_map]
  exact List.map_congr_left fun a _ => mkImm_im (ImD.im a)
theorem ti_enT {as : List α} (ha : TA Γ gA g [iF (tpD D) as] Γ1) : TI Γ (itEA gA) g (iF (p2D nD D)) (enT 0 as) false Γ1 := fun q sl m => by
  obtain ⟨s1, e1, m1⟩ := ha q sl m
  refine ⟨s1, ?_, m1⟩
  rw [ev_itEA e1 (d := tpD D as) rfl (ds := as.map D) rfl, enum_map]
  exact congrArg (fun l => Res.ok ((l, false), _)) (mapF _)
theorem ti_enI {as : List α} (ha : TA Γ gA g [iF (lsD D) as] Γ1) : TI Γ (itEA gA) g (iF (p2D nD D)) (enT 0 as) false Γ1 := fun q sl m => by
  obtain ⟨s1, e1, m1⟩ := ha q sl m
  refine ⟨s1, ?_, m1⟩
  rw [ev_itEA e1 (d := lsD D as) rfl (ds := as.map D) rfl, enum_map]
  exact congrArg (fun l => Res.ok ((l, false), _)) (mapF _)
theorem ti_enL [ImD D] {as : List α} (ha : TA Γ gA g [nF (lsD D) as] Γ1) : TI Γ (itEA gA) g (iF (p2D nD D)) (enT 0 as) true Γ1 := fun q sl m => by
  obtain ⟨s1, e1, m1⟩ := ha q sl m
  refine ⟨s1, ?_, m1⟩
  rw [ev_itEA e1 (d := lsD D as) rfl (ds := as.map D) rfl, enum_map, mk_map]
  rfl
theorem ti_enF [FlF F D] {as : List α} (ha : TA Γ gA g [lF F as] Γ1) : TI Γ (itEA gA) g (iF (p2D nD D)) (enT 0 as) false Γ1 := fun q sl m => by
  obtain ⟨s1, e1, m1⟩ := ha q sl m
  refine ⟨s1, ?_, m1⟩
  rw [ev_itEA e1 (vl as) (ds := as.map D) rfl, enum_map, show lhs [lF F as] = false by simp only [lhs, List.any_cons, lh_lst, List.any_nil]; rfl]
  exact congrArg (fun l => Res.ok ((l, false), _)) (mapF _)
/-- two of which is read what they hold -/
theorem ti_zip [ImD D] [ImD E] {as : List α} {bs : List β} {d e : PyData} (ha : TA Γ gA g [x, y] Γ1) (hd : x.dat [] = some d) (he : y.dat [] = some e) (hi : itemsD d = some (as.map D)) (hj : itemsD e = some (bs.map E)) : TI Γ (itZA gA) g (iF (p2D D E)) (as.zip bs) (lhs [x, y]) Γ1 := fun q sl m => by
  obtain ⟨s1, e1, m1⟩ := ha q sl m
  refine ⟨s1, ?_, m1⟩
  rw [ev_itZA e1 hd he hi hj, zip_map, mk_map]
theorem ti_zipI {as : List α} {bs : List β} {d e : PyData} (ha : TA Γ gA g [x, y] Γ1) (hd : x.dat [] = some d) (he : y.dat [] = some e) (hi : itemsD d = some (as.map D)) (hj : itemsD e = some (bs.map E)) (hl : lhs [x, y] = false) : TI Γ (itZA gA) g (iF (p2D D E)) (as.zip bs) false Γ1 := fun q sl m => by
  obtain ⟨s1, e1, m1⟩ := ha q sl m
  refine ⟨s1, ?_, m1⟩
  rw [ev_itZA e1 hd he hi hj, zip_map, hl]
  exact congrArg (fun l => Res.ok ((l, false), _)) (mapF _)
theorem te_lr {n : Nat} (ha : TE Γ fa g (iF nD n) Γ1) : TE Γ (lrE fa) (g ∧ n ≤ 2 ^ 24) (lF (iF nD) (List.range n)) Γ1 := fun q sl m => by
  obtain ⟨s1, e1, m1⟩ := ha q.1 sl m
  exact ⟨s1, by rw [ev_lr e1 (by simp only [rgOk, decide_eq_true_eq]; have := q.2; omega), rng_n, mapF]; rfl, m1⟩
theorem te_frz [FlF F D] {as : List α} (ha : TE Γ fa g (lF F as) Γ1) : TE Γ (frzE fa) g (iF (lsD D) as) Γ1 := fun q sl m => by
  obtain ⟨s1, e1, m1⟩ := ha q sl m
  exact ⟨s1, ev_frz e1 (FlF.nl (F := lF F) as) (FlF.dat (F := lF F) as), m1⟩
theorem te_frzI {a : α} (ha : TE Γ fa g (iF D a) Γ1) : TE Γ (frzE fa) g (iF D a) Γ1 := fun q sl m => by
  obtain ⟨s1, e1, m1⟩ := ha q sl m
  exact ⟨s1, ev_frz e1 rfl rfl, m1⟩
theorem te_take (h : Γ[i]? = some (.is x)) : TE Γ (takeE i) True x (Γ.set i .cl) := fun _ sl m => ⟨_, ev_take (m.at h), m.set (p := .cl) (o := none) (.inl rfl) i⟩
/-! ### targets -/
theorem tg_nm (h : Nat.blt i Γ.length = true := by rfl) : TG Γ (.nm i) x (Γ.set i (.is x)) := fun sl m => ⟨sl.set i (some x), by
  have : i < sl.length := by rw [← m.len]; exact Nat.blt_eq.mp h
  simp only [bindT, if_pos this], m.set (p := .is x) (o := some x) rfl i⟩
theorem tg_2 {t u : Tg} {p : α × β} (h1 : TG Γ t (iF D p.1) Γ1) (h2 : TG Γ1 u (iF E p.2) Γ2) : TG Γ (.tp (.cons t (.cons u .nil))) (iF (p2D D E) p) Γ2 := fun sl m => by
  obtain ⟨s1, e1, m1⟩ := h1 sl m
  obtain ⟨s2, e2, m2⟩ := h2 s1 m1
  refine ⟨s2, ?_, m2⟩
  simp only [iF, p2D, bindT, LV.parts, List.map_cons, List.map_nil, MP.bindL] at e1 e2 ⊢
  simp only [e1, e2]
theorem tg_3 {t u v : Tg} {p : α × β × γ} (h1 : TG Γ t (iF D p.1) Γ1) (h2 : TG Γ1 u (iF E p.2.1) Γ2) (h3 : TG Γ2 v (iF G p.2.2) Γ3) : TG Γ (.tp (.cons t (.cons u (.cons v .nil)))) (iF (p3D D E G) p) Γ3 := fun sl m => by
  obtain ⟨s1, e1, m1⟩ := h1 sl m
  obtain ⟨s2, e2, m2⟩ := h2 s1 m1
  obtain ⟨s3, e3, m3⟩ := h3 s2 m2
  refine ⟨s3, ?_, m3⟩
  simp only [iF, p3D, bindT, LV.parts, List.map_cons, List.map_nil, MP.bindL] at e1 e2 e3 ⊢
  simp only [e1, e2, e3]
/-! ### comprehensions -/
def wc (Γ : List SP) : List Nat → List SP
  | [] => Γ
  | i :: is => (wc Γ is).set i .cl
def wo (Γ : List SP) : List Nat → List SP
  | [] => Γ
  | i :: is => (wo Γ is).set i .any
instance nlg_wc {Γ : List SP} [NlG Γ] : ∀ {is : List Nat}, NlG (wc Γ is)
  | [] => by rw [wc]; infer_instance
  | i :: is => by
    rw [wc]
    have := nlg_wc (Γ := Γ) (is := is)
    infer_instance
theorem MtL.of_len {Γ : List SP} {sl : List (Option LV)} (hl : Γ.length = sl.length) (h : ∀ (i : Nat) (p : SP), Γ[i]? = some p → ∃ o, sl[i]? = some o ∧ p.ok o) : MtL Γ sl := by
  induction Γ generalizing sl with
  | nil => cases sl with
    | nil => exact .nil
    | cons o os => cases hl
  | cons p Γ ih => cases sl with
    | nil => cases hl
    | cons o os =>
      obtain ⟨o', e, q⟩ := h 0 p rfl
      cases e
      exact .cons q (ih (by simpa using hl) fun i p e => h (i + 1) p e)
theorem wo_wc {Γ : List SP} {sl : List (Option LV)} (own : List Nat) (m : MtL (wo Γ own) sl) : MtL (wc Γ own) (wipeL sl own) := by
  have l1 : ∀ own : List Nat, (wo Γ own).length = Γ.length := fun own => by
    induction own with
    | nil => rfl
    | cons i is ih => rw [wo, List.length_set, ih]
  have l2 : ∀ own : List Nat, (wc Γ own).length = Γ.length := fun own => by
    induction own with
    | nil => rfl
    | cons i is ih => rw [wc, List.length_set, ih]
  have l3 : ∀ own : List Nat, (wipeL sl own).length = sl.length := fun own => by
    induction own with
    | nil => rfl
    | cons i is ih => rw [wipeL, List.length_set, ih]
  have gw : ∀ (own : List Nat) (j : Nat), (wo Γ own)[j]? = if j ∈ own then (if j < Γ.length then some .any else none) else Γ[j]? := fun own j => by
    induction own with
    | nil => simp [wo]
    | cons i is ih =>
      rw [wo, List.getElem?_set, ih]
      by_cases e : i = j
      · subst e; simp [l1]
      · rw [if_neg e]
        have : (j ∈ i :: is) ↔ j ∈ is := by simp [Ne.symm e]
        simp only [this]
  have gc : ∀ (own : List Nat) (j : Nat), (wc Γ own)[j]? = if j ∈ own then (if j < Γ.length then some .cl else none) else Γ[j]? := fun own j => by
    induction own with
    | nil => simp [wc]
    | cons i is ih =>
      rw [wc, List.getElem?_set, ih]
      by_cases e : i = j
      · subst e; simp [l2]
      · rw [if_neg e]
        have : (j ∈ i :: is) ↔ j ∈ is := by simp [Ne.symm e]
        simp only [this]
  have gp : ∀ (own : List Nat) (j : Nat), (wipeL sl own)[j]? = if j ∈ own then (if j < sl.length then some none else none) else sl[j]? := fun own j => by
    induction own with
    | nil => simp [wipeL]
    | cons i is ih =>
      rw [wipeL, List.getElem?_set, ih]
      by_cases e : i = j
      · subst e; simp [l3]
      · rw [if_neg e]
        have : (j ∈ i :: is) ↔ j ∈ is := by simp [Ne.symm e]
        simp only [this]
  refine MtL.of_len (by rw [l2, l3, ← m.len, l1]) fun j p e => ?_
  rw [gc] at e
  rw [gp]
  by_cases h : j ∈ own
  · rw [if_pos h] at e ⊢
    have hl := m.len
    rw [l1] at hl
    by_cases hj : j < Γ.length
    · rw [if_pos hj] at e
      cases e
      rw [if_pos (by omega)]
      exact ⟨none, rfl, .inl rfl⟩
    · rw [if_neg hj] at e; cases e
  · rw [if_neg h] at e ⊢
    exact m.get (by rw [gw, if_neg h]; exact e)
theorem wo_of {Γ : List SP} {sl : List (Option LV)} (m : MtL Γ sl) : ∀ own : List Nat, MtL (wo Γ own) sl
  | [] => m
  | i :: is => by
    have ih := wo_of m is
    have key : ∀ {Γ : List SP} {sl : List (Option LV)} (i : Nat), MtL Γ sl → MtL (Γ.set i .any) sl := fun {Γ sl} i m => by
      induction m generalizing i with
      | nil => exact .nil
      | cons hp ht ih => cases i with
        | zero => exact .cons trivial ht
        | succ i => exact .cons hp (ih i)
    exact key i ih
/-- own slots hold nothing, or what is only read -/
inductive Cn (Γ : List SP) : List Nat → Prop
  | n : Cn Γ []
  | c {i : Nat} {is : List Nat} : Γ[i]? = some .cl → Cn Γ is → Cn Γ (i :: is)
  | i {i : Nat} {is : List Nat} {α : Type} {D : α → PyData} {a : α} : Γ[i]? = some (.is (iF D a)) → Cn Γ is → Cn Γ (i :: is)
theorem Cn.clean {Γ : List SP} {own : List Nat} (c : Cn Γ own) {sl : List (Option LV)} (m : MtL Γ sl) : cleanL sl own = true := by
  induction c with
  | n => rfl
  | c h _ ih =>
    rw [cleanL, List.all_cons]
    obtain ⟨o, e, q⟩ := m.get h
    rw [e]
    have : List.all _ _ = true := ih
    rcases q with rfl | ⟨d, rfl⟩
    · exact this
    · exact this
  | i h _ ih =>
    rw [cleanL, List.all_cons]
    rw [m.at h]
    have : List.all _ _ = true := ih
    exact this
theorem back_mt {Γ : List SP} {old sl : List (Option LV)} (own : List Nat) (m : MtL Γ old) (m' : MtL (wo Γ own) sl) : MtL Γ (backL old sl own) := by
  have l1 : ∀ own : List Nat, (wo Γ own).length = Γ.length := fun own => by
    induction own with
    | nil => rfl
    | cons i is ih => rw [wo, List.length_set, ih]
  have l3 : ∀ own : List Nat, (backL old sl own).length = sl.length := fun own => by
    induction own with
    | nil => rfl
    | cons i is ih => rw [backL, List.length_set, ih]
  have gw : ∀ (own : List Nat) (j : Nat), (wo Γ own)[j]? = if j ∈ own then (if j < Γ.length then some .any else none) else Γ[j]? := fun own j => by
    induction own with
    | nil => simp [wo]
    | cons i is ih =>
      rw [wo, List.getElem?_set, ih]
      by_cases e : i = j
      · subst e; simp [l1]
      · rw [if_neg e]
        have : (j ∈ i :: is) ↔ j ∈ is := by simp [Ne.symm e]
        simp only [this]
  have gp : ∀ (own : List Nat) (j : Nat), (backL old sl own)[j]? = if j ∈ own then (if j < sl.length then some ((old[j]?).getD none) else none) else sl[j]? := fun own j => by
    induction own with
    | nil => simp [backL]
    | cons i is ih =>
      rw [backL, List.getElem?_set, ih]
      by_cases e : i = j
      · subst e; simp [l3]
      · rw [if_neg e]
        have : (j ∈ i :: is) ↔ j ∈ is := by simp [Ne.symm e]
        simp only [this]
  have hl := m'.len
  rw [l1] at hl
  refine MtL.of_len (by rw [l3]; exact hl) fun j p e => ?_
  rw [gp]
  by_cases h : j ∈ own
  · rw [if_pos h]
    obtain ⟨o, e1, e2⟩ := m.get e
    have hj : j < Γ.length := by
      rcases Nat.lt_or_ge j Γ.length with z | z
      · exact z
      · rw [List.getElem?_eq_none z] at e; cases e
    rw [if_pos (by omega), e1]
    exact ⟨o, rfl, e2⟩
  · rw [if_neg h]
    exact m'.get (by rw [gw, if_neg h]; exact e)
theorem comp_run {v : α → LV} {K : β → LV} {own : List Nat} {t : Tg} {fe : EvF} {p : α → Bool} {e : α → β} {gt ge : α → Prop} {X : α → List SP}
    (hb : ∀ a, TG (wc Γ own) t (v a) (X a)) (ht : ∀ a, TT (X a) ft (gt a) (p a) (X a)) (he : ∀ a, TE (X a) fe (ge a) (K (e a)) (X a)) (hk : ∀ a, Wk (X a) (wo Γ own)) :
    ∀ as : List α, (∀ a ∈ as, gt a ∧ (p a = true → ge a)) → ∀ sl, MtL (wo Γ own) sl → ∃ sl', compL own t (lcStep ft fe) (as.map v) ⟨sl, []⟩ = .ok (((as.filter p).map e).map K, ⟨sl', []⟩) ∧ MtL (wo Γ own) sl'
  | [], _, sl, m => ⟨sl, rfl, m⟩
  | a :: as, h, sl, m => by
    obtain ⟨s0, e0, m0⟩ := hb a _ (wo_wc own m)
    obtain ⟨s1, e1, m1⟩ := ht a (h a List.mem_cons_self).1 s0 m0
    cases hp : p a with
    | true =>
      obtain ⟨s2, e2, m2⟩ := he a ((h a List.mem_cons_self).2 hp) s1 m1
      obtain ⟨s3, e3, m3⟩ := comp_run hb ht he hk as (fun b hb => h b (List.mem_cons_of_mem _ hb)) s2 (hk a _ m2)
      refine ⟨s3, ?_, m3⟩
      rw [List.map_cons, compL]
      rw [hp] at e1
      simp only [e0, lcStep, e1, Res.bind, if_true, e2, e3, List.filter_cons, hp, List.map_cons]
      rfl
    | false =>
      obtain ⟨s3, e3, m3⟩ := comp_run hb ht he hk as (fun b hb => h b (List.mem_cons_of_mem _ hb)) s1 (hk a _ m1)
      refine ⟨s3, ?_, m3⟩
      rw [List.map_cons, compL]
      rw [hp] at e1
      simp only [e0, lcStep, e1, Res.bind, Bool.false_eq_true, if_false, e3, List.filter_cons, hp]
      rfl
theorem te_lcp {v : α → LV} {K : β → LV} {E : β → PyData} [FlF K E] {own : List Nat} {t : Tg} {fe : EvF} {p : α → Bool} {e : α → β} {gt ge : α → Prop} {X : α → List SP} {as : List α} {fl : Bool}
    (hi : TI Γ fi g v as fl Γ1) (hb : ∀ a, TG (wc Γ1 own) t (v a) (X a)) (ht : ∀ a, TT (X a) ft (gt a) (p a) (X a)) (he : ∀ a, TE (X a) fe (ge a) (K (e a)) (X a)) (hk : ∀ a, Wk (X a) (wo Γ1 own)) (hc : Cn Γ1 own) [hn : NlG Γ1] [hv : ∀ a, NlV (v a)] :
    TE Γ (lcE own false t fi ft fe) (g ∧ (as.length ≤ sizeLine ∧ ∀ a ∈ as, gt a ∧ (p a = true → ge a))) (lF K ((as.filter p).map e)) Γ1 := fun q sl m => by
  obtain ⟨s0, e0, m0⟩ := hi q.1 sl m
  obtain ⟨s1, e1, m1⟩ := comp_run hb ht he hk as q.2.2 s0 (wo_of m0 own)
  refine ⟨backL s0 s1 own, ?_, back_mt own m0 m1⟩
  have hbad : ¬ lcBad own false ((as.map v, fl), (⟨s0, []⟩ : LS)) := fun z => by
    rcases z with ⟨_, z⟩ | z | z | z
    · cases z
    · rw [hc.clean m0] at z; cases z
    · rw [NlG.all m0] at z; cases z
    · rw [show nlAll (as.map v) = true by
        simp only [nlAll, List.all_map, List.all_eq_true]
        intro a _
        exact (hv a).nl] at z
      cases z
  have hlen : (((as.filter p).map e).map K).length ≤ sizeLine := by
    have := List.length_filter_le p as
    simp only [List.length_map]
    exact Nat.le_trans this q.2.1
  simp only [lcE, e0, Res.bind, if_neg hbad, e1, noExc, lcEnd, hlen, nlAll_map, and_self, if_true]
  rfl
theorem te_lc {v : α → LV} {K : β → LV} {E : β → PyData} [FlF K E] {own : List Nat} {t : Tg} {fe : EvF} {e : α → β} {ge : α → Prop} {X : α → List SP} {as : List α} {fl : Bool}
    (hi : TI Γ fi g v as fl Γ1) (hb : ∀ a, TG (wc Γ1 own) t (v a) (X a)) (he : ∀ a, TE (X a) fe (ge a) (K (e a)) (X a)) (hk : ∀ a, Wk (X a) (wo Γ1 own)) (hc : Cn Γ1 own) [hn : NlG Γ1] [hv : ∀ a, NlV (v a)] :
    TE Γ (lcE own false t fi tyE fe) (g ∧ (as.length ≤ sizeLine ∧ ∀ a ∈ as, ge a)) (lF K (as.map e)) Γ1 := fun q => by
  have := te_lcp (p := fun _ => true) (gt := fun _ => True) (ft := tyE) hi hb (fun a => tt_ty) he hk hc ⟨q.1, q.2.1, fun a h => ⟨trivial, fun _ => q.2.2 a h⟩⟩
  rwa [List.filter_eq_self.mpr fun _ _ => rfl] at this
/-! ### calls -/
def TC (Γ : List SP) (e : LS → Res (List AV × LS)) (g : Prop) (xs : List LV) (is : List Nat) (lh : Bool) (Δ : List SP) : Prop := g → ∀ sl, MtL Γ sl → ∃ sl' as, e ⟨sl, []⟩ = .ok (as, ⟨sl', []⟩) ∧ MtL Δ sl' ∧ argsOf ⟨sl', []⟩ as = some xs ∧ slotsOf as = is ∧ lhs (dataOf as) = lh
theorem tc_n : TC Γ nilC True [] [] false Γ := fun _ sl m => ⟨sl, [], rfl, m, rfl, rfl, rfl⟩
theorem tc_c {is : List Nat} {a : α} {b1 b2 : Bool} (ha : TE Γ fa ga x Γ1) (hd : x.dat [] = some (D a)) (hl : x.lh = b1) (hb : TC Γ1 gC gb xs is b2 Δ) [hn : BB bb x] : TC Γ (consC bb fa gC) (ga ∧ gb) (iF D a :: xs) is (b1 || b2) Δ := fun q sl m => by
  obtain ⟨s1, e1, m1⟩ := ha q.1 sl m
  obtain ⟨s2, as, e2, m2, h1, h2, h3⟩ := hb q.2 s1 m1
  refine ⟨s2, .dat x :: as, ev_consC e1 e2 hn.h, m2, ?_, by simp only [slotsOf, h2], ?_⟩
  · simp only [argsOf, hd, h1]; rfl
  · simp only [MP.dataOf, lhs, List.any_cons, hl] at h3 ⊢
    rw [h3]
/-- scalars, tuples -/
theorem tc_i {is : List Nat} {a : α} {lh : Bool} (ha : TE Γ fa ga (iF D a) Γ1) (hb : TC Γ1 gC gb xs is lh Δ) : TC Γ (consC bb fa gC) (ga ∧ gb) (iF D a :: xs) is lh Δ := tc_c ha rfl (b1 := false) rfl hb
theorem tc_l {is : List Nat} {a : α} {lh : Bool} (ha : TE Γ fa ga (nF D a) Γ1) (hb : TC Γ1 gC gb xs is lh Δ) [hn : BB bb ((nF D a))] : TC Γ (consC bb fa gC) (ga ∧ gb) (iF D a :: xs) is (true || lh) Δ := tc_c ha rfl rfl hb
/-- a list just made -/
theorem tc_f [FlF F D] {is : List Nat} {as : List α} {lh : Bool} (ha : TE Γ fa ga (lF F as) Γ1) (hb : TC Γ1 gC gb xs is lh Δ) : TC Γ (consC bb fa gC) (ga ∧ gb) (iF (lsD D) as :: xs) is lh Δ := tc_c ha (vl as) (b1 := false) (lh_lst as) hb
theorem tc_s {is : List Nat} {lh : Bool} (hb : TC Γ gC g xs is lh Δ) (h1 : Γ[i]? = some (.is y)) (h2 : Δ[i]? = some (.is z)) (hz : z.giv = true) : TC Γ (slotC i gC) g (z :: xs) (i :: is) lh Δ := fun q sl m => by
  obtain ⟨s2, as, e2, m2, h3, h4, h5⟩ := hb q sl m
  refine ⟨s2, .slot i :: as, ev_slotC (m.at h1) e2, m2, argsOf_slot (m2.at h2) hz h3, by simp only [slotsOf, h4], h5⟩
theorem te_call0 {cf : CF} {f : Nat} {lh : Bool} (ha : TC Γ gC g xs [] lh Δ) (hc : cf f xs = .ok x []) (hl : lh = false ∨ x.hm = true) (hn : x.nl = true) : TE Γ (callEE cf f gC) g x Δ := fun q sl m => by
  obtain ⟨s2, as, e2, m2, h3, h4, h5⟩ := ha q sl m
  exact ⟨s2, ev_call0 e2 h3 h4 (hl.imp (fun h => h5.trans h) id) hc hn, m2⟩
theorem te_call1 {cf : CF} {f : Nat} (ha : TC Γ gC g xs [i] false Δ) (hc : cf f xs = .ok x [y]) (hn : x.nl = true) (hy : y.nl = true) : TE Γ (callEE cf f gC) g x (Δ.set i (.is y)) := fun q sl m => by
  obtain ⟨s2, as, e2, m2, h3, h4, h5⟩ := ha q sl m
  exact ⟨_, ev_call1 e2 h3 h4 h5 hc hn hy, m2.set (p := .is y) (o := some y) rfl i⟩
/-! ### changes -/
theorem te_mut {s : Nat} {op : MP.MO} {ds : List PyData} {x' z' y : LV} (hp : TP Γ fp gd ds) (ha : TA Γ gA g xs Δ) (h1 : ∀ sl, MtL Γ sl → isLst (getF ⟨sl, []⟩ i ds) = true) (h2 : ∀ sl, MtL Δ sl → getF ⟨sl, []⟩ i ds = some z) (hn : nlAll xs = true) (hg : gc → mutG op z xs = some (z', y)) (hw : ∀ sl, MtL Δ sl → MP.putF ⟨sl, []⟩ i ds z' = some ⟨sl.set i (some x'), []⟩) : TE Γ (mutE i false (mutG op) fp gA) (gd ∧ g ∧ gc) y (Δ.set i (.is x')) := fun q sl m => by
  obtain ⟨s1, e1, m1⟩ := ha q.2.1 sl m
  exact ⟨_, ev_mut (hp q.1 sl m) (h1 sl m) e1 (h2 s1 m1) hn (hg q.2.2) (hw s1 m1), m1.set (p := .is x') (o := some x') rfl i⟩
theorem tp_n : TP Γ nilP True [] := fun _ sl m => rfl
theorem tp_c {ds : List PyData} {a : α} (hp : TP Γ fp gd ds) (ha : TE Γ fa g (iF D a) Γ) : TP Γ (snocP fp fa) (gd ∧ g) (ds ++ [D a]) := fun q sl m => by
  obtain ⟨s1, e1, _⟩ := ha q.2 sl m
  exact ev_snocP (hp q.1 sl m) e1
theorem getF_top {sl : List (Option LV)} {as : List LV} (h : sl[i]? = some (some (.lst as))) : getF ⟨sl, []⟩ i [] = some (.lst as) := by simp [getF, h, splitP, getP]
theorem putF_top {sl : List (Option LV)} {as : List LV} {z : LV} (h : sl[i]? = some (some (.lst as))) : MP.putF ⟨sl, []⟩ i [] z = some ⟨sl.set i (some z), []⟩ := by simp [MP.putF, h, splitP, putP]
/-- a change of the list in a slot itself -/
theorem te_mut0 {op : MP.MO} {as as' : List α} {K : α → LV} {y : LV} (h1 : Γ[i]? = some (.is (lF K as))) (hp : TA Γ gA g xs Δ) (h2 : Δ[i]? = some (.is (lF K as))) (hn : nlAll xs = true) (hg : gc → mutG op (lF K as) xs = some (lF K as', y)) : TE Γ (mutE i false (mutG op) nilP gA) (g ∧ gc) y (Δ.set i (.is (lF K as'))) := fun q =>
  te_mut (gd := True) (s := 0) tp_n hp (fun sl m => by rw [getF_top (m.at h1)]; rfl) (fun sl m => getF_top (m.at h2)) hn hg (fun sl m => putF_top (m.at h2)) ⟨trivial, q⟩
theorem step_lst {K : α → LV} [Inhabited α] {as : List α} {k : Nat} (h : k < as.length) : stepL (lF K as) (nD k) = some (K (as.getD k default)) := by
  have : (as.map K)[k]? = some (K (as.getD k default)) := by
    rw [List.getElem?_map, List.getElem?_eq_getElem h, List.getD_eq_getElem?_getD, List.getElem?_eq_getElem h]; rfl
  show atI (as.map K) (k : Int) = _
  exact MP.atI_nat this
theorem ixN_nat {n k : Nat} (h : k < n) : ixN n (k : Int) = some k := by
  simp only [ixN]
  rw [if_pos (by omega), if_pos (by omega)]
  simp
theorem put_lst {K : α → LV} {as : List α} {k : Nat} (h : k < as.length) (a : α) : putL (lF K as) (nD k) (K a) = some (lF K (as.set k a)) := by
  simp only [lF, nD, putL, List.length_map, ixN_nat h, Option.map_some, List.map_set]
theorem lst_noref {K : α → LV} {as : List α} {k : Nat} (h : ∀ a, ∃ b, K a = .lst b) (hk : k < as.length) [Inhabited α] : splitP (lF K as) [nD k] = none := by
  obtain ⟨b, e⟩ := h (as.getD k default)
  have := step_lst (K := K) hk
  simp only [lF] at this ⊢
  simp only [splitP, this, e]
theorem getF_row {K : α → LV} {sl : List (Option LV)} {rs : List (List α)} {k : Nat} (h : sl[i]? = some (some (lF (lF K) rs))) (hk : k < rs.length) : getF ⟨sl, []⟩ i [nD k] = some (lF K (rs.getD k [])) := by
  have e1 := lst_noref (K := lF K) (as := rs) (fun a => ⟨_, rfl⟩) hk
  have e2 := step_lst (K := lF K) (as := rs) hk
  simp only [getF, h, e1, getP, e2]
  rfl
theorem putF_row {K : α → LV} {sl : List (Option LV)} {rs : List (List α)} {k : Nat} (h : sl[i]? = some (some (lF (lF K) rs))) (hk : k < rs.length) (r : List α) : MP.putF ⟨sl, []⟩ i [nD k] (lF K r) = some ⟨sl.set i (some (lF (lF K) (rs.set k r))), []⟩ := by
  have e1 := lst_noref (K := lF K) (as := rs) (fun a => ⟨_, rfl⟩) hk
  have e2 := step_lst (K := lF K) (as := rs) hk
  have e3 := put_lst (K := lF K) (as := rs) hk r
  simp only [MP.putF, h, e1, putP, e2, e3, Option.map_some]
/-- a change of a list in a list in a slot -/
theorem te_mut1 {op : MP.MO} {rs : List (List α)} {r' : List α} {K : α → LV} {y : LV} {k : Nat} (h1 : Γ[i]? = some (.is (lF (lF K) rs))) (hp : TP Γ fp gd ([] ++ [nD k])) (ha : TA Γ gA g xs Δ) (h2 : Δ[i]? = some (.is (lF (lF K) rs))) (hn : nlAll xs = true) (hg : gc → mutG op (lF K (rs.getD k [])) xs = some (lF K r', y)) : TE Γ (mutE i false (mutG op) fp gA) (gd ∧ g ∧ (k < rs.length ∧ gc)) y (Δ.set i (.is (lF (lF K) (rs.set k r')))) := fun q =>
  te_mut (s := 0) hp ha (fun sl m => by rw [show ([] ++ [nD k] : List PyData) = [nD k] from rfl, getF_row (m.at h1) q.2.2.1]; rfl) (fun sl m => getF_row (m.at h2) q.2.2.1) hn hg (fun sl m => putF_row (m.at h2) q.2.2.1 r') ⟨q.1, q.2.1, q.2.2.2⟩
theorem mg_app {K : α → LV} {as : List α} {a : α} (h : as.length < sizeLine) : mutG .append (lF K as) [K a] = some (lF K (as ++ [a]), iF uD ()) := by
  simp only [lF, mutG, List.length_map, if_pos h, List.map_append]; rfl
theorem mg_extF {K : α → LV} {as bs : List α} (h : as.length + bs.length ≤ sizeLine) : mutG .extend (lF K as) [lF K bs] = some (lF K (as ++ bs), iF uD ()) := by
  simp only [lF, mutG, List.length_map, if_pos h, List.map_append]; rfl
theorem mg_extI {as bs : List α} (h : as.length + bs.length ≤ sizeLine) : mutG .extend (lF (iF D) as) [iF (lsD D) bs] = some (lF (iF D) (as ++ bs), iF uD ()) := by
  simp only [lF, iF, lsD, mutG, List.length_map, if_pos h, List.map_append, List.map_map]; rfl
theorem mg_extT {as bs : List α} (h : as.length + bs.length ≤ sizeLine) : mutG .extend (lF (iF D) as) [iF (tpD D) bs] = some (lF (iF D) (as ++ bs), iF uD ()) := by
  simp only [lF, iF, tpD, mutG, List.length_map, if_pos h, List.map_append, List.map_map]; rfl
theorem allInts_n : ∀ as : List Nat, allInts (as.map (iF nD)) = some (as.map fun (n : Nat) => (n : Int))
  | [] => rfl
  | a :: as => by rw [List.map_cons, iF, allInts, allInts_n as]; rfl
theorem erase_cast (k : Nat) : ∀ r : List Nat, (r.map fun (x : Nat) => (x : Int)).erase (k : Int) = (r.erase k).map fun (x : Nat) => (x : Int)
  | [] => rfl
  | x :: r => by
    by_cases h : x = k
    · subst h; simp
    · have h1 : ((x : Int) == (k : Int)) = false := by simp; omega
      have h2 : (x == k) = false := by simp [h]
      rw [List.map_cons, List.erase_cons, h1, List.erase_cons, h2]
      simp only [Bool.false_eq_true, if_false, List.map_cons, erase_cast k r]
theorem mg_rem {as : List Nat} {k : Nat} (h : k ∈ as) : mutG .remove (lF (iF nD) as) [iF nD k] = some (lF (iF nD) (as.erase k), iF uD ()) := by
  have q := allInts_n as
  have : (k : Int) ∈ as.map fun (x : Nat) => (x : Int) := List.mem_map.mpr ⟨k, h, rfl⟩
  show (match allInts (as.map (iF nD)) with | some ns => if (k : Int) ∈ ns then some (LV.lst ((ns.erase (k : Int)).map fun n => .imm (.int n)), LV.imm .none) else none | none => none) = _
  rw [q]
  simp only [this, if_true, erase_cast, List.map_map]
  rfl
theorem erase_map' {β : Type} (f : α → β) : ∀ (l : List α) (i : Nat), (l.map f).eraseIdx i = (l.eraseIdx i).map f
  | [], _ => by simp
  | a :: l, 0 => by simp
  | a :: l, i + 1 => by simp [erase_map' f l i]
theorem mg_pop {K : α → LV} [Inhabited α] {as : List α} {k : Nat} (h : k < as.length ∧ as.length ≤ 2 ^ 62) : mutG .pop (lF K as) [iF nD k] = some (lF K (as.eraseIdx k), K (as.getD k default)) := by
  have : (as.map K)[k]? = some (K (as.getD k default)) := by
    rw [List.getElem?_map, List.getElem?_eq_getElem h.1, List.getD_eq_getElem?_getD, List.getElem?_eq_getElem h.1]; rfl
  simp only [lF, iF, nD, mutG]
  rw [if_pos (by simp only [decide_eq_true_eq]; omega), List.length_map, ixN_nat h.1]
  simp only [this, erase_map']
theorem mg_pop0 {K : α → LV} [Inhabited α] {as : List α} (h : as ≠ []) : mutG .pop (lF K as) [] = some (lF K as.dropLast, K (as.getLastD default)) := by
  obtain ⟨ys, y, rfl⟩ : ∃ ys y, as = ys ++ [y] := ⟨as.dropLast, as.getLast h, (List.dropLast_concat_getLast h).symm⟩
  simp [lF, mutG]
theorem nl1 (h : x.nl = true) : nlAll [x] = true := by simp [nlAll, h]
theorem te_app {as : List α} {a : α} (h1 : Γ[i]? = some (.is (lF F as))) (ha : TA Γ gA g [F a] Δ) (h2 : Δ[i]? = some (.is (lF F as))) [hn : NlV (F a)] : TE Γ (mutE i false (mutG .append) nilP gA) (g ∧ as.length < sizeLine) (iF uD ()) (Δ.set i (.is (lF F (as ++ [a])))) := te_mut0 h1 ha h2 (nl1 hn.nl) mg_app
theorem te_extF [FlF F D] {as bs : List α} (h1 : Γ[i]? = some (.is (lF F as))) (ha : TA Γ gA g [lF F bs] Δ) (h2 : Δ[i]? = some (.is (lF F as))) : TE Γ (mutE i false (mutG .extend) nilP gA) (g ∧ as.length + bs.length ≤ sizeLine) (iF uD ()) (Δ.set i (.is (lF F (as ++ bs)))) := te_mut0 h1 ha h2 (nl1 (FlF.nl (F := lF F) bs)) mg_extF
theorem te_extI {as bs : List α} (h1 : Γ[i]? = some (.is (lF (iF D) as))) (ha : TA Γ gA g [iF (lsD D) bs] Δ) (h2 : Δ[i]? = some (.is (lF (iF D) as))) : TE Γ (mutE i false (mutG .extend) nilP gA) (g ∧ as.length + bs.length ≤ sizeLine) (iF uD ()) (Δ.set i (.is (lF (iF D) (as ++ bs)))) := te_mut0 h1 ha h2 (nl1 rfl) mg_extI
theorem te_extT {as bs : List α} (h1 : Γ[i]? = some (.is (lF (iF D) as))) (ha : TA Γ gA g [iF (tpD D) bs] Δ) (h2 : Δ[i]? = some (.is (lF (iF D) as))) : TE Γ (mutE i false (mutG .extend) nilP gA) (g ∧ as.length + bs.length ≤ sizeLine) (iF uD ()) (Δ.set i (.is (lF (iF D) (as ++ bs)))) := te_mut0 h1 ha h2 (nl1 rfl) mg_extT
theorem te_rem {as : List Nat} {a : Nat} (h1 : Γ[i]? = some (.is (lF (iF nD) as))) (ha : TA Γ gA g [iF nD a] Δ) (h2 : Δ[i]? = some (.is (lF (iF nD) as))) : TE Γ (mutE i false (mutG .remove) nilP gA) (g ∧ a ∈ as) (iF uD ()) (Δ.set i (.is (lF (iF nD) (as.erase a)))) := te_mut0 h1 ha h2 (nl1 rfl) mg_rem
theorem te_pop [Inhabited α] {as : List α} {k : Nat} (h1 : Γ[i]? = some (.is (lF F as))) (ha : TA Γ gA g [iF nD k] Δ) (h2 : Δ[i]? = some (.is (lF F as))) : TE Γ (mutE i false (mutG .pop) nilP gA) (g ∧ (k < as.length ∧ as.length ≤ 2 ^ 62)) (F (as.getD k default)) (Δ.set i (.is (lF F (as.eraseIdx k)))) := te_mut0 h1 ha h2 (nl1 rfl) mg_pop
theorem te_pop0 [Inhabited α] {as : List α} (h1 : Γ[i]? = some (.is (lF F as))) : TE Γ (mutE i false (mutG .pop) nilP nilA) (True ∧ as ≠ []) (F (as.getLastD default)) (Γ.set i (.is (lF F as.dropLast))) := te_mut0 (xs := []) h1 ta_n h1 rfl mg_pop0
theorem te_app1 {rs : List (List α)} {a : α} {k : Nat} (h1 : Γ[i]? = some (.is (lF (lF F) rs))) (hp : TP Γ fp gd ([] ++ [nD k])) (ha : TA Γ gA g [F a] Δ) (h2 : Δ[i]? = some (.is (lF (lF F) rs))) [hn : NlV (F a)] : TE Γ (mutE i false (mutG .append) fp gA) (gd ∧ g ∧ (k < rs.length ∧ (rs.getD k []).length < sizeLine)) (iF uD ()) (Δ.set i (.is (lF (lF F) (rs.set k (rs.getD k [] ++ [a]))))) := te_mut1 h1 hp ha h2 (nl1 hn.nl) mg_app
theorem te_rem1 {rs : List (List Nat)} {a k : Nat} (h1 : Γ[i]? = some (.is (lF (lF (iF nD)) rs))) (hp : TP Γ fp gd ([] ++ [nD k])) (ha : TA Γ gA g [iF nD a] Δ) (h2 : Δ[i]? = some (.is (lF (lF (iF nD)) rs))) : TE Γ (mutE i false (mutG .remove) fp gA) (gd ∧ g ∧ (k < rs.length ∧ a ∈ rs.getD k [])) (iF uD ()) (Δ.set i (.is (lF (lF (iF nD)) (rs.set k ((rs.getD k []).erase a))))) := te_mut1 h1 hp ha h2 (nl1 rfl) mg_rem
theorem te_extT1 {rs : List (List α)} {bs : List α} {k : Nat} (h1 : Γ[i]? = some (.is (lF (lF (iF D)) rs))) (hp : TP Γ fp gd ([] ++ [nD k])) (ha : TA Γ gA g [iF (tpD D) bs] Δ) (h2 : Δ[i]? = some (.is (lF (lF (iF D)) rs))) : TE Γ (mutE i false (mutG .extend) fp gA) (gd ∧ g ∧ (k < rs.length ∧ (rs.getD k []).length + bs.length ≤ sizeLine)) (iF uD ()) (Δ.set i (.is (lF (lF (iF D)) (rs.set k (rs.getD k [] ++ bs))))) := te_mut1 h1 hp ha h2 (nl1 rfl) mg_extT
theorem te_extI1 {rs : List (List α)} {bs : List α} {k : Nat} (h1 : Γ[i]? = some (.is (lF (lF (iF D)) rs))) (hp : TP Γ fp gd ([] ++ [nD k])) (ha : TA Γ gA g [iF (lsD D) bs] Δ) (h2 : Δ[i]? = some (.is (lF (lF (iF D)) rs))) : TE Γ (mutE i false (mutG .extend) fp gA) (gd ∧ g ∧ (k < rs.length ∧ (rs.getD k []).length + bs.length ≤ sizeLine)) (iF uD ()) (Δ.set i (.is (lF (lF (iF D)) (rs.set k (rs.getD k [] ++ bs))))) := te_mut1 h1 hp ha h2 (nl1 rfl) mg_extI
theorem te_extF1 [FlF F D] {rs : List (List α)} {bs : List α} {k : Nat} (h1 : Γ[i]? = some (.is (lF (lF F) rs))) (hp : TP Γ fp gd ([] ++ [nD k])) (ha : TA Γ gA g [lF F bs] Δ) (h2 : Δ[i]? = some (.is (lF (lF F) rs))) : TE Γ (mutE i false (mutG .extend) fp gA) (gd ∧ g ∧ (k < rs.length ∧ (rs.getD k []).length + bs.length ≤ sizeLine)) (iF uD ()) (Δ.set i (.is (lF (lF F) (rs.set k (rs.getD k [] ++ bs))))) := te_mut1 h1 hp ha h2 (nl1 (FlF.nl (F := lF F) bs)) mg_extF
end
end TL
/-! TL.3: statements, defs -/
namespace TL
open PySem PySem.Spec PyProof.Rows L2 MP
/-- what a block comes to: nothing told; on; handed back; raised; out of the loop; to its next turn -/
inductive Out (ρ lam σ : Type) where
  | un | nx (s : σ) | rt (r : ρ) | ex (c : Nat) (ps : List PyData) | bk (s : lam) | ct (s : lam)
def Out.bind {ρ lam σ τ : Type} (o : Out ρ lam σ) (f : σ → Out ρ lam τ) : Out ρ lam τ := match o with
  | .un => .un
  | .nx s => f s
  | .rt r => .rt r
  | .ex c ps => .ex c ps
  | .bk s => .bk s
  | .ct s => .ct s
/-- a wish ahead of what follows -/
noncomputable def gu {ρ lam σ : Type} (p : Prop) (o : Out ρ lam σ) : Out ρ lam σ := open Classical in if p then o else .un
def lt {α β : Type} (v : α) (f : α → β) : β := f v
def bo {α ρ lam σ : Type} (o : Option α) (f : α → Out ρ lam σ) : Out ρ lam σ := match o with
  | some a => f a
  | none => .un
def cif {α : Type} [Inhabited α] (p : Bool) (o : Option α) : Option α := if p then o else some default
def ov {α : Type} [Inhabited α] (o : Option α) : α := o.getD default
def forO {α ρ lam σ : Type} (f : α → σ → Out ρ σ σ) : List α → σ → Out ρ lam σ
  | [], s => .nx s
  | a :: as, s => match f a s with
    | .nx s' => forO f as s'
    | .ct s' => forO f as s'
    | .bk s' => .nx s'
    | .rt r => .rt r
    | .ex c ps => .ex c ps
    | .un => .un
noncomputable def whlO {ρ lam σ : Type} (g : σ → Prop) (c : σ → Bool) (f : σ → Out ρ σ σ) : Nat → σ → Out ρ lam σ
  | 0, _ => .un
  | n + 1, s => gu (g s) (if c s then match f s with
      | .nx s' => whlO g c f n s'
      | .ct s' => whlO g c f n s'
      | .bk s' => .nx s'
      | .rt r => .rt r
      | .ex c ps => .ex c ps
      | .un => .un
    else .nx s)
def finO {ρ lam σ : Type} (o : Out ρ lam σ) (k : σ → Option ρ) : Option ρ := match o with
  | .rt r => some r
  | .nx s => k s
  | _ => none
section
variable {ρ lam σ τ α : Type}
theorem gu_t {p : Prop} (h : p) (o : Out ρ lam σ) : gu p o = o := by simp [gu, h]
theorem lt_eq {β : Type} (v : α) (f : α → β) : lt v f = f v := rfl
theorem bo_s (a : α) (f : α → Out ρ lam σ) : bo (some a) f = f a := rfl
theorem bo_e {o : Option α} {a : α} (h : o = some a) (f : α → Out ρ lam σ) : bo o f = f a := by rw [h]; rfl
theorem cif_h [Inhabited α] {p : Bool} {o : Option α} {r : α} (h : cif p o = some r) (hp : p = true) : o = some r := by rwa [cif, if_pos hp] at h
theorem cif_t [Inhabited α] {p : Bool} {o : Option α} {r : α} (hp : p = true) (h : o = some r) : cif p o = some r := by rw [cif, if_pos hp, h]
theorem cif_f [Inhabited α] {p : Bool} {o : Option α} (hp : p = false) : cif p o = some default := by rw [cif, hp]; rfl
theorem ov_s [Inhabited α] (a : α) : ov (some a) = a := rfl
theorem ov_of [Inhabited α] {o : Option α} (h : o.isSome = true) : o = some (ov o) := by
  cases o with
  | none => cases h
  | some a => rfl
theorem nx_bind (s : σ) (f : σ → Out ρ lam τ) : (Out.nx s).bind f = f s := rfl
theorem rt_bind (r : ρ) (f : σ → Out ρ lam τ) : (Out.rt r : Out ρ lam σ).bind f = .rt r := rfl
/-- a walk, item by item -/
theorem forO_inv {f : α → σ → Out ρ σ σ} (I : List α → σ → Prop) : ∀ {as done : List α} {s : σ}, I done s →
    (∀ pre x rest, done ++ as = pre ++ x :: rest → ∀ s, I pre s → ∃ s', (f x s = .nx s' ∨ f x s = .ct s') ∧ I (pre ++ [x]) s') →
    ∃ s', (forO f as s : Out ρ lam σ) = .nx s' ∧ I (done ++ as) s'
  | [], done, s, h, _ => ⟨s, rfl, by rwa [List.append_nil]⟩
  | x :: as, done, s, h, hs => by
    obtain ⟨s', e, h'⟩ := hs done x as rfl s h
    obtain ⟨s2, e2, h2⟩ := forO_inv I (as := as) (done := done ++ [x]) h' fun pre y rest q => hs pre y rest (by rw [← q, List.append_assoc]; rfl)
    refine ⟨s2, ?_, by rwa [List.append_assoc] at h2⟩
    rcases e with e | e <;> simp only [forO, e] <;> exact e2
/-- a walk told by a fold -/
theorem forO_fold {f : α → σ → Out ρ σ σ} (F : σ → α → σ) (I : σ → Prop) : ∀ {as : List α} {s : σ}, I s → (∀ x ∈ as, ∀ s, I s → f x s = .nx (F s x) ∧ I (F s x)) → (forO f as s : Out ρ lam σ) = .nx (as.foldl F s) ∧ I (as.foldl F s)
  | [], s, h, _ => ⟨rfl, h⟩
  | x :: as, s, h, hs => by
    obtain ⟨e, h'⟩ := hs x List.mem_cons_self s h
    obtain ⟨e2, h2⟩ := forO_fold F I (as := as) h' fun y hy => hs y (List.mem_cons_of_mem _ hy)
    exact ⟨by simp only [forO, e]; exact e2, h2⟩
theorem whlO_inv {g : σ → Prop} {c : σ → Bool} {f : σ → Out ρ σ σ} (I : Nat → σ → Prop) (Q : σ → Prop) (hs : ∀ m s, I (m + 1) s → g s ∧ c s = true ∧ ∃ s', (f s = .nx s' ∨ f s = .ct s') ∧ I m s') (h0 : ∀ s, I 0 s → g s ∧ c s = false ∧ Q s) : ∀ {m n : Nat} {s : σ}, m < n → I m s → ∃ s', (whlO g c f n s : Out ρ lam σ) = .nx s' ∧ Q s'
  | 0, n + 1, s, _, h => by
    obtain ⟨hg, hc, q⟩ := h0 s h
    exact ⟨s, by simp only [whlO, gu_t hg, hc, Bool.false_eq_true, if_false], q⟩
  | m + 1, n + 1, s, l, h => by
    obtain ⟨hg, hc, s', e, h2⟩ := hs m s h
    obtain ⟨s2, e2, q⟩ := whlO_inv I Q hs h0 (Nat.lt_of_succ_lt_succ l) h2
    refine ⟨s2, ?_, q⟩
    rcases e with e | e <;> simp only [whlO, gu_t hg, hc, if_true, e] <;> exact e2
end
def OutAt (io : List Nat) (ys : List LV) (sl : List (Option LV)) : Prop := io.map (fun i => sl[i]?) = ys.map fun y => some (some y)
def TS (Γ : List SP) (st : LS → SR) (g : Prop) (Δ : List SP) : Prop := g → ∀ sl, MtL Γ sl → ∃ sl', st ⟨sl, []⟩ = .nxt ⟨sl', []⟩ ∧ MtL Δ sl'
section
variable {ρ lam σ : Type}
def TBq (io : List Nat) (Λ : lam → List SP) (R : ρ → LV) (O : ρ → List LV) (Φ : σ → List SP) (r : SR) (o : Out ρ lam σ) : Prop := match o with
  | .un => True
  | .nx s => ∃ sl, r = .nxt ⟨sl, []⟩ ∧ MtL (Φ s) sl
  | .rt x => ∃ sl, r = .ret (R x) ⟨sl, []⟩ ∧ OutAt io (O x) sl
  | .ex c ps => ∃ sl, r = .exc c ps ⟨sl, []⟩ ∧ io = []
  | .bk s => ∃ sl, r = .brk ⟨sl, []⟩ ∧ MtL (Λ s) sl
  | .ct s => ∃ sl, r = .cnt ⟨sl, []⟩ ∧ MtL (Λ s) sl
def TB (io : List Nat) (Λ : lam → List SP) (R : ρ → LV) (O : ρ → List LV) (Γ : List SP) (b : LS → SR) (o : Out ρ lam σ) (Φ : σ → List SP) : Prop := ∀ sl, MtL Γ sl → TBq io Λ R O Φ (b ⟨sl, []⟩) o
end
section
variable {ρ lam σ σ' α β γ τ : Type} {io : List Nat} {Λ : lam → List SP} {R : ρ → LV} {O : ρ → List LV} {Φ : σ → List SP}
variable {D : α → PyData} {K : α → LV} {K2 : β → LV} {K3 : γ → LV}
variable {Γ Γ1 Γ2 Γ3 Δ : List SP} {fa fb fc : EvF} {gA gB : LS → Res (List LV × LS)} {ft : LS → Res (Bool × LS)} {fi : ItF} {fp : LS → Res (List PyData)} {st a b : LS → SR} {g g' ga gb gc gd : Prop} {x y z : LV} {xs ys : List LV} {i j l : Nat} {o oa ob : Out ρ lam σ}
theorem ts_ex (h : TE Γ fa g x Δ) : TS Γ (exS fa) g Δ := fun q sl m => by
  obtain ⟨s1, e1, m1⟩ := h q sl m
  exact ⟨s1, st_ex e1, m1⟩
theorem ts_set (h : TE Γ fa g x Γ1) (hn : x.nl = true) (hi : Nat.blt i Γ1.length = true) : TS Γ (setS1 i fa) g (Γ1.set i (.is x)) := fun q sl m => by
  obtain ⟨s1, e1, m1⟩ := h q sl m
  have : i < s1.length := by rw [← m1.len]; exact Nat.blt_eq.mp hi
  exact ⟨_, st_set e1 hn this rfl, m1.set (p := .is x) (o := some x) rfl i⟩
theorem ts_asg {t : Tg} (h : TE Γ fa g x Γ1) (hn : x.nl = true) (ht : TG Γ1 t x Δ) : TS Γ (asgS t fa) g Δ := fun q sl m => by
  obtain ⟨s1, e1, m1⟩ := h q sl m
  obtain ⟨s2, e2, m2⟩ := ht s1 m1
  exact ⟨s2, st_asg e1 hn e2, m2⟩
theorem ts_par2 (h : TA Γ gA g [x, y] Γ1) (hn : nlAll [x, y] = true) (hi : Nat.blt i Γ1.length = true) (hj : Nat.blt j Γ1.length = true) : TS Γ (parS [i, j] gA) g ((Γ1.set i (.is x)).set j (.is y)) := fun q sl m => by
  obtain ⟨s1, e1, m1⟩ := h q sl m
  have h1 : i < s1.length := by rw [← m1.len]; exact Nat.blt_eq.mp hi
  have h2 : j < s1.length := by rw [← m1.len]; exact Nat.blt_eq.mp hj
  exact ⟨_, st_par e1 hn (sl' := (s1.set i (some x)).set j (some y)) (by simp [parL, h1, h2]), (m1.set (p := .is x) (o := some x) rfl i).set (p := .is y) (o := some y) rfl j⟩
theorem ts_par3 (h : TA Γ gA g [x, y, z] Γ1) (hn : nlAll [x, y, z] = true) (hi : Nat.blt i Γ1.length = true) (hj : Nat.blt j Γ1.length = true) (hl : Nat.blt l Γ1.length = true) : TS Γ (parS [i, j, l] gA) g (((Γ1.set i (.is x)).set j (.is y)).set l (.is z)) := fun q sl m => by
  obtain ⟨s1, e1, m1⟩ := h q sl m
  have h1 : i < s1.length := by rw [← m1.len]; exact Nat.blt_eq.mp hi
  have h2 : j < s1.length := by rw [← m1.len]; exact Nat.blt_eq.mp hj
  have h3 : l < s1.length := by rw [← m1.len]; exact Nat.blt_eq.mp hl
  exact ⟨_, st_par e1 hn (sl' := ((s1.set i (some x)).set j (some y)).set l (some z)) (by simp [parL, h1, h2, h3]), ((m1.set (p := .is x) (o := some x) rfl i).set (p := .is y) (o := some y) rfl j).set (p := .is z) (o := some z) rfl l⟩
theorem getF_t {sl : List (Option LV)} {as : List LV} (h : sl[i]? = some (some (.lst as))) : getF ⟨sl, []⟩ i [] = some (.lst as) := getF_top h
/-- an item of a list in a slot -/
theorem ts_six {as : List α} {v : α} {k : Nat} (h : TE Γ fa g (K v) Γ1) (hk : TE Γ1 fb gb (iF nD k) Γ1) (h1 : Γ1[i]? = some (.is (lF K as))) [hn : NlV (K v)] : TS Γ (setS i false fa nilP fb) (g ∧ gb ∧ k < as.length) (Γ1.set i (.is (lF K (as.set k v)))) := fun q sl m => by
  obtain ⟨s1, e1, m1⟩ := h q.1 sl m
  obtain ⟨s2, e2, m2⟩ := hk q.2.1 s1 m1
  have e3 := m1.at h1
  refine ⟨s1.set i (some (lF K (as.set k v))), ?_, m1.set (p := .is _) (o := some _) rfl i⟩
  have ez : putZ (lF K as) (nD k) (K v) = some (lF K (as.set k v)) := by
    simp only [lF, nD, putZ, List.length_map, ixN_nat q.2.2, Option.map_some, List.map_set]
  simp only [setS, Bool.false_eq_true, if_false, e1, Res.toS, nilP, noExc, e2, iF, getF_top e3, lF, hn.nl, if_true] at ez ⊢
  simp only [ez, putF_top e3]
/-! blocks -/
theorem tb_nil {s : σ} (h : Wk Γ (Φ s)) : TB io Λ R O Γ nxtS (.nx s) Φ := fun sl m => ⟨sl, rfl, h sl m⟩
theorem tb_gu (h : g → TB io Λ R O Γ b o Φ) : TB io Λ R O Γ b (gu g o) Φ := fun sl m => by
  by_cases q : g
  · rw [gu_t q]; exact h q sl m
  · simp only [gu, if_neg q]; trivial
theorem tb_0 (h : TB io Λ R O Γ b (gu True o) Φ) : TB io Λ R O Γ b o Φ := by rwa [gu_t trivial] at h
/-- the last statement -/
theorem tb_one {s : σ} (h : TS Γ a g Γ1) (hg : g' → g) (k : Wk Γ1 (Φ s)) : TB io Λ R O Γ a (gu g' (.nx s)) Φ := tb_gu fun q sl m => by
  obtain ⟨s1, e1, m1⟩ := h (hg q) sl m
  exact ⟨s1, e1, k s1 m1⟩
theorem tb_s (h : TS Γ a g Γ1) (hg : g' → g) (k : TB io Λ R O Γ1 b o Φ) : TB io Λ R O Γ (seqS a b) (gu g' o) Φ := tb_gu fun q sl m => by
  obtain ⟨s1, e1, m1⟩ := h (hg q) sl m
  have : seqS a b ⟨sl, []⟩ = b ⟨s1, []⟩ := by simp only [seqS, e1, SR.bind]
  rw [this]
  exact k s1 m1
theorem tb_set {v : α} {o : α → Out ρ lam σ} (h : TE Γ fa g (K v) Γ1) (hg : g' → g) (k : ∀ x, TB io Λ R O (Γ1.set i (.is (K x))) b (o x) Φ) [hn : NlV (K v)] (hi : Nat.blt i Γ1.length = true) : TB io Λ R O Γ (seqS (setS1 i fa) b) (gu g' (lt v o)) Φ := tb_s (ts_set h hn.nl hi) hg (k v)
theorem tb_asg {p : α} {P : α → PyData} {t : Tg} {Δ : α → List SP} {o : α → Out ρ lam σ} (h : TE Γ fa g (iF P p) Γ1) (hg : g' → g) (ht : ∀ q, TG Γ1 t (iF P q) (Δ q)) (k : ∀ q, TB io Λ R O (Δ q) b (o q) Φ) : TB io Λ R O Γ (seqS (asgS t fa) b) (gu g' (lt p o)) Φ := tb_s (ts_asg h rfl (ht p)) hg (k p)
theorem nl2 (h1 : x.nl = true) (h2 : y.nl = true) : nlAll [x, y] = true := by simp [nlAll, h1, h2]
theorem nl3 (h1 : x.nl = true) (h2 : y.nl = true) (h3 : z.nl = true) : nlAll [x, y, z] = true := by simp [nlAll, h1, h2, h3]
theorem tb_par2 {v : α} {w : β} {o : α → β → Out ρ lam σ} (h : TA Γ gA g [K v, K2 w] Γ1) (hg : g' → g) (k : ∀ x y, TB io Λ R O ((Γ1.set i (.is (K x))).set j (.is (K2 y))) b (o x y) Φ) [h1 : NlV (K v)] [h2 : NlV (K2 w)] (hi : Nat.blt i Γ1.length = true) (hj : Nat.blt j Γ1.length = true) : TB io Λ R O Γ (seqS (parS [i, j] gA) b) (gu g' (lt v fun x => lt w fun y => o x y)) Φ := tb_s (ts_par2 h (nl2 h1.nl h2.nl) hi hj) hg (k v w)
theorem tb_par3 {v : α} {w : β} {u : γ} {o : α → β → γ → Out ρ lam σ} (h : TA Γ gA g [K v, K2 w, K3 u] Γ1) (hg : g' → g) (k : ∀ x y z, TB io Λ R O (((Γ1.set i (.is (K x))).set j (.is (K2 y))).set l (.is (K3 z))) b (o x y z) Φ) [h1 : NlV (K v)] [h2 : NlV (K2 w)] [h3 : NlV (K3 u)] (hi : Nat.blt i Γ1.length = true) (hj : Nat.blt j Γ1.length = true) (hl : Nat.blt l Γ1.length = true) : TB io Λ R O Γ (seqS (parS [i, j, l] gA) b) (gu g' (lt v fun x => lt w fun y => lt u fun z => o x y z)) Φ := tb_s (ts_par3 h (nl3 h1.nl h2.nl h3.nl) hi hj hl) hg (k v w u)
/-- a change of a slot -/
theorem tb_chg {v : α} {o : α → Out ρ lam σ} (h : TS Γ a g (Γ1.set i (.is (K v)))) (hg : g' → g) (k : ∀ x, TB io Λ R O (Γ1.set i (.is (K x))) b (o x) Φ) : TB io Λ R O Γ (seqS a b) (gu g' (lt v o)) Φ := tb_s h hg (k v)
/-- what stands in a slot by a name of its own -/
theorem tb_re {v : α} {S : α → List SP} {o : α → Out ρ lam σ} (k : ∀ x, TB io Λ R O (S x) b (o x) Φ) : TB io Λ R O (S v) b (lt v o) Φ := k v
theorem tb_bo {T : Option τ} {o : τ → Out ρ lam σ} (k : ∀ r, T = some r → TB io Λ R O Γ b (o r) Φ) : TB io Λ R O Γ b (bo T o) Φ := fun sl m => by
  cases T with
  | none => trivial
  | some r => exact k r rfl sl m
theorem tb_seq {S : σ' → List SP} {oa : Out ρ lam σ'} {ob : σ' → Out ρ lam σ} (h : TB io Λ R O Γ a oa S) (k : ∀ s, TB io Λ R O (S s) b (ob s) Φ) : TB io Λ R O Γ (seqS a b) (oa.bind ob) Φ := fun sl m => by
  have q := h sl m
  cases oa with
  | un => trivial
  | nx s =>
    obtain ⟨s1, e1, m1⟩ := q
    have : seqS a b ⟨sl, []⟩ = b ⟨s1, []⟩ := by simp only [seqS, e1, SR.bind]
    rw [this]
    exact k s s1 m1
  | rt r =>
    obtain ⟨s1, e1, m1⟩ := q
    exact ⟨s1, by simp only [seqS, e1, SR.bind], m1⟩
  | ex c ps =>
    obtain ⟨s1, e1, m1⟩ := q
    exact ⟨s1, by simp only [seqS, e1, SR.bind], m1⟩
  | bk s =>
    obtain ⟨s1, e1, m1⟩ := q
    exact ⟨s1, by simp only [seqS, e1, SR.bind], m1⟩
  | ct s =>
    obtain ⟨s1, e1, m1⟩ := q
    exact ⟨s1, by simp only [seqS, e1, SR.bind], m1⟩
theorem tb_if {p : Bool} (h : TT Γ ft g p Γ1) (hg : g' → g) (ka : TB io Λ R O Γ1 a oa Φ) (kb : TB io Λ R O Γ1 b ob Φ) : TB io Λ R O Γ (ifS ft a b) (gu g' (if p then oa else ob)) Φ := tb_gu fun q sl m => by
  obtain ⟨s1, e1, m1⟩ := h (hg q) sl m
  cases p with
  | true =>
    have : ifS ft a b ⟨sl, []⟩ = a ⟨s1, []⟩ := by simp only [ifS, e1, Res.toS, if_true]
    rw [this]
    exact ka s1 m1
  | false =>
    have : ifS ft a b ⟨sl, []⟩ = b ⟨s1, []⟩ := by simp only [ifS, e1, Res.toS, Bool.false_eq_true, if_false]
    rw [this]
    exact kb s1 m1
theorem tb_ret {r : ρ} (h : TE Γ fa g (R r) Γ1) (hg : g' → g) (ho : io.map (fun i => Γ1[i]?) = (O r).map (fun y => some (.is y))) : TB io Λ R O Γ (retS fa) (gu g' (.rt r)) Φ := tb_gu fun q sl m => by
  obtain ⟨s1, e1, m1⟩ := h (hg q) sl m
  refine ⟨s1, st_ret e1, ?_⟩
  have key : ∀ (io : List Nat) (ys : List LV), io.map (fun i => Γ1[i]?) = ys.map (fun y => some (.is y)) → OutAt io ys s1 := by
    intro io
    induction io with
    | nil => intro ys e; cases ys with
      | nil => rfl
      | cons y ys => cases e
    | cons i io ih => intro ys e; cases ys with
      | nil => cases e
      | cons y ys =>
        simp only [List.map_cons, List.cons.injEq] at e
        have := ih ys e.2
        simp only [OutAt, List.map_cons] at this ⊢
        rw [this, m1.at e.1]
  exact key io (O r) ho
theorem tb_retN {r : ρ} (hr : R r = .imm .none) (ho : io.map (fun i => Γ[i]?) = (O r).map (fun y => some (.is y))) : TB io Λ R O Γ retNS (.rt r) Φ := by
  have := tb_ret (io := io) (Λ := Λ) (R := R) (O := O) (Γ := Γ) (Γ1 := Γ) (Φ := Φ) (r := r) (g := True) (g' := True) (fa := cE .none) (fun _ sl m => ⟨sl, by rw [hr]; rfl, m⟩) id ho
  rw [gu_t trivial] at this
  exact this
theorem tb_brk {s : lam} (h : Wk Γ (Λ s)) : TB io Λ R O Γ brkS (.bk s : Out ρ lam σ) Φ := fun sl m => ⟨sl, rfl, h sl m⟩
theorem tb_cnt {s : lam} (h : Wk Γ (Λ s)) : TB io Λ R O Γ cntS (.ct s : Out ρ lam σ) Φ := fun sl m => ⟨sl, rfl, h sl m⟩
theorem tb_for {S : σ → List SP} {v : α → LV} {as : List α} {s0 : σ} {t : Tg} {X : α → σ → List SP} {f : α → σ → Out ρ σ σ} (h : TI Γ fi g v as false Γ1) (hg : g' → g) (hw : Wk Γ1 (S s0)) (ht : ∀ a s, TG (S s) t (v a) (X a s)) (k : ∀ a s, TB io S R O (X a s) b (f a s) S) : TB io Λ R O Γ (forS fi t b) (gu g' (forO f as s0)) S := tb_gu fun q sl m => by
  obtain ⟨s1, e1, m1⟩ := h (hg q) sl m
  have : forS fi t b ⟨sl, []⟩ = forL t b (as.map v) ⟨s1, []⟩ := by simp only [forS, e1, Res.toS, Bool.false_eq_true, if_false]
  rw [this]
  have key : ∀ (as : List α) (s : σ) (sl : List (Option LV)), MtL (S s) sl → TBq io Λ R O S (forL t b (as.map v) ⟨sl, []⟩) (forO f as s) := by
    intro as
    induction as with
    | nil => intro s sl m; exact ⟨sl, rfl, m⟩
    | cons a as ih =>
      intro s sl m
      obtain ⟨s2, e2, m2⟩ := ht a s sl m
      have q := k a s s2 m2
      rw [List.map_cons, forL]
      simp only [e2, forO]
      cases e : f a s with
      | un => trivial
      | nx s' => rw [e] at q; obtain ⟨s3, e3, m3⟩ := q; simp only [e3]; exact ih s' s3 m3
      | ct s' => rw [e] at q; obtain ⟨s3, e3, m3⟩ := q; simp only [e3]; exact ih s' s3 m3
      | bk s' => rw [e] at q; obtain ⟨s3, e3, m3⟩ := q; simp only [e3]; exact ⟨s3, rfl, m3⟩
      | rt r => rw [e] at q; obtain ⟨s3, e3, m3⟩ := q; simp only [e3]; exact ⟨s3, rfl, m3⟩
      | ex c ps => rw [e] at q; obtain ⟨s3, e3, m3⟩ := q; simp only [e3]; exact ⟨s3, rfl, m3⟩
  exact key as s0 s1 (hw s1 m1)
theorem tb_whl {S : σ → List SP} {s0 : σ} {g : σ → Prop} {c : σ → Bool} {f : σ → Out ρ σ σ} (hw : Wk Γ (S s0)) (ht : ∀ s, TT (S s) ft (g s) (c s) (S s)) (k : ∀ s, TB io S R O (S s) b (f s) S) : TB io Λ R O Γ (whlS ft b) (whlO g c f fuel s0) S := fun sl m => by
  have key : ∀ (n : Nat) (s : σ) (sl : List (Option LV)), MtL (S s) sl → TBq io Λ R O S (whlL ft b n ⟨sl, []⟩) (whlO g c f n s) := by
    intro n
    induction n with
    | zero => intro s sl m; trivial
    | succ n ih =>
      intro s sl m
      by_cases hg : g s
      · obtain ⟨s2, e2, m2⟩ := ht s hg sl m
        simp only [whlO, gu_t hg, whlL, e2]
        cases hc : c s with
        | false =>
          simp only [Bool.false_eq_true, if_false]
          exact ⟨s2, rfl, m2⟩
        | true =>
          simp only [if_true]
          have q := k s s2 m2
          cases e : f s with
          | un => trivial
          | nx s' => rw [e] at q; obtain ⟨s3, e3, m3⟩ := q; simp only [e3]; exact ih s' s3 m3
          | ct s' => rw [e] at q; obtain ⟨s3, e3, m3⟩ := q; simp only [e3]; exact ih s' s3 m3
          | bk s' => rw [e] at q; obtain ⟨s3, e3, m3⟩ := q; simp only [e3]; exact ⟨s3, rfl, m3⟩
          | rt r => rw [e] at q; obtain ⟨s3, e3, m3⟩ := q; simp only [e3]; exact ⟨s3, rfl, m3⟩
          | ex c ps => rw [e] at q; obtain ⟨s3, e3, m3⟩ := q; simp only [e3]; exact ⟨s3, rfl, m3⟩
      · simp only [whlO, gu, if_neg hg]; trivial
  exact key fuel s0 sl (hw sl m)
/-! defs -/
theorem mt_init : ∀ (xs : List LV) (m : Nat), MtL (xs.map .is ++ List.replicate m .cl) (xs.map some ++ List.replicate m none)
  | [], 0 => .nil
  | [], m + 1 => by
    rw [List.replicate_succ, List.replicate_succ]
    exact .cons (.inl rfl) (mt_init [] m)
  | x :: xs, m => .cons rfl (mt_init xs m)
theorem outs_of {ob : List (Option LV)} {sl : List (Option LV)} : ∀ {io : List Nat} {ys : List LV}, OutAt io ys sl → (∀ y ∈ ys, LV.giv.giv1 y = true) → outsOf sl io ob = some (ys, ob)
  | [], [], _, _ => rfl
  | [], _ :: _, h, _ => by cases h
  | _ :: _, [], h, _ => by cases h
  | i :: io, y :: ys, h, hg => by
    simp only [OutAt, List.map_cons, List.cons.injEq] at h
    have := outs_of (ob := ob) (io := io) (ys := ys) h.2 fun y hy => hg y (List.mem_cons_of_mem _ hy)
    simp only [outsOf, h.1, rsv_giv ob (hg y List.mem_cons_self), this]
theorem fn_ok {np ns : Nat} {body : LS → SR} {o : Out ρ lam σ} {k : σ → Option ρ} {r : ρ} (hb : TB io Λ R O Γ body o Φ) (hΓ : Γ = xs.map .is ++ List.replicate (ns - np) .cl) (hl : xs.length = np) (hn : nlAll xs = true) (hR : ∀ r, LV.giv.giv1 (R r) = true) (hO : ∀ r, ∀ y ∈ O r, LV.giv.giv1 y = true)
    (hk : ∀ s r, k s = some r → R r = .imm .none ∧ io.map (fun i => (Φ s)[i]?) = (O r).map (fun y => some (.is y))) (h : finO o k = some r) : runB np ns io body xs = .ok (R r) (O r) := by
  subst hΓ
  have q := hb _ (mt_init xs (ns - np))
  cases o with
  | rt r' =>
    cases h
    obtain ⟨s1, e1, h1⟩ := q
    exact run_ret hl hn e1 (rsv_giv _ (hR r)) (outs_of h1 (hO r))
  | nx s =>
    obtain ⟨s1, e1, m1⟩ := q
    obtain ⟨h2, h3⟩ := hk s r h
    rw [h2]
    have key : ∀ (io : List Nat) (ys : List LV), io.map (fun i => (Φ s)[i]?) = ys.map (fun y => some (.is y)) → OutAt io ys s1 := by
      intro io
      induction io with
      | nil => intro ys e; cases ys with
        | nil => rfl
        | cons y ys => cases e
      | cons i io ih => intro ys e; cases ys with
        | nil => cases e
        | cons y ys =>
          simp only [List.map_cons, List.cons.injEq] at e
          have := ih ys e.2
          simp only [OutAt, List.map_cons] at this ⊢
          rw [this, m1.at e.1]
    exact run_nxt hl hn e1 (outs_of (key io (O r) h3) (hO r))
  | un => cases h
  | ex _ _ => cases h
  | bk _ => cases h
  | ct _ => cases h
end
/-! calls by what is known of them -/
section
variable {α : Type} {Γ Δ : List SP} {gC : LS → Res (List AV × LS)} {g : Prop} {xs : List LV} {x y : LV} {i : Nat} {cf : CF} {f : Nat} {lh : Bool}
theorem te_k0 {T : Option α} {r : α} {K : α → LV} (ha : TC Γ gC g xs [] lh Δ) (hc : T = some r → cf f xs = .ok (K r) []) (hl : lh = false ∨ (K r).hm = true) [hn : NlV (K r)] : TE Γ (callEE cf f gC) (g ∧ T = some r) (K r) Δ := fun q => te_call0 ha (hc q.2) hl hn.nl q.1
theorem te_k1 {β : Type} {T : Option (α × β)} {r : α × β} {K : α → LV} {B : β → LV} (ha : TC Γ gC g xs [i] false Δ) (hc : T = some r → cf f xs = .ok (K r.1) [B r.2]) [hn : NlV (K r.1)] [hb : NlV (B r.2)] : TE Γ (callEE cf f gC) (g ∧ T = some r) (K r.1) (Δ.set i (.is (B r.2))) := fun q => te_call1 ha (hc q.2) hn.nl hb.nl q.1
/-- in a comprehension -/
theorem te_o0 [Inhabited α] {T : Option α} {K : α → LV} (ha : TC Γ gC g xs [] lh Δ) (hc : ∀ r, T = some r → cf f xs = .ok (K r) []) (hl : lh = false ∨ (K (ov T)).hm = true) [hn : NlV (K (ov T))] : TE Γ (callEE cf f gC) (g ∧ T.isSome = true) (K (ov T)) Δ := fun q => te_call0 ha (hc _ (ov_of q.2)) hl hn.nl q.1
end
end TL
/-! TL.4: more rules -/
namespace TL
open PySem PySem.Spec PyProof.Rows L2 MP
theorem nt {p : Bool} (h : p = false) : (!p) = true := by rw [h]; rfl
section
variable {α β γ δ : Type} {D : α → PyData} {E : β → PyData} {G : γ → PyData} {F : α → LV}
theorem nla_n : nlAll [] = true := rfl
theorem nla_c {x : LV} {xs : List LV} (h : x.nl = true) (t : nlAll xs = true) : nlAll (x :: xs) = true := nlAll_cons h t
theorem nl_l [FlF F D] (as : List α) : (lF F as).nl = true := FlF.nl (F := lF F) as
theorem gi_l [FlF F D] (as : List α) : LV.giv.giv1 (lF F as) = true := FlF.giv (F := lF F) as
theorem giv_l [FlF F D] (as : List α) : (lF F as).giv = true := by
  have := FlF.giv (F := lF F) as
  simpa [lF, LV.giv, LV.giv.giv1] using this
theorem go_n : ∀ y ∈ ([] : List LV), LV.giv.giv1 y = true := fun _ h => nomatch h
theorem go_c {x : LV} {xs : List LV} (h : LV.giv.giv1 x = true) (t : ∀ y ∈ xs, LV.giv.giv1 y = true) : ∀ y ∈ x :: xs, LV.giv.giv1 y = true := fun y hy => by
  rcases List.mem_cons.mp hy with rfl | hy
  · exact h
  · exact t y hy
theorem hm_of [ImD D] (a : α) : (iF D a).hm = true := ImD.im a
theorem hms_ls [ImD D] : ∀ as : List α, LV.hm.hms (as.map (iF D)) = true
  | [] => rfl
  | a :: as => by rw [List.map_cons, LV.hm.hms, hms_ls as, show (iF D a).hm = true from ImD.im a]; rfl
theorem hm_ls [ImD D] (as : List α) : (lF (iF D) as).hm = true := hms_ls as
end
section
variable {α β γ δ : Type} {D : α → PyData} {E : β → PyData} {G : γ → PyData} {F : α → LV}
variable {Γ Γ1 Γ2 Γ3 Δ : List SP} {fa fb fc : EvF} {gA gB : LS → Res (List LV × LS)} {g ga gb gc gd : Prop} {x y z : LV} {xs ys : List LV} {bb be : Bool}
/-- two lists make a new one -/
theorem te_catL [ImD D] {as bs : List α} (ha : TE Γ fa ga x Γ1) (hb : TE Γ1 fb gb y Γ2) (hd : x.dat [] = some (lsD D as)) (he : y.dat [] = some (lsD D bs)) [hn : BB bb x] : TE Γ (op2E (bopD .Add) lvB bb fa fb) (ga ∧ gb ∧ as.length + bs.length ≤ sizeLine) (lF (iF D) (as ++ bs)) Γ2 :=
  te_op (r := .nl ((as ++ bs).map D)) ha hb hd he hn.h (fun h => by simp only [lsD, bopD, List.length_map, if_pos h, List.map_append]) (lv_nl _)
theorem te_catT {as bs : List α} (ha : TE Γ fa ga (iF (tpD D) as) Γ1) (hb : TE Γ1 fb gb (iF (tpD D) bs) Γ2) : TE Γ (op2E (bopD .Add) lvB bb fa fb) (ga ∧ gb ∧ as.length + bs.length ≤ sizeLine) (iF (tpD D) (as ++ bs)) Γ2 :=
  te_op (r := .dat (tpD D (as ++ bs))) ha hb rfl rfl (fun _ => rfl) (fun h => by simp only [tpD, bopD, List.length_map, if_pos h, List.map_append]) rfl
/-- sorted of a tuple -/
theorem te_sortedT [ImD D] {le : α → α → Bool} [OrD D le] {as : List α} (ha : TE Γ fa ga x Γ1) (hd : x.dat [] = some (tpD D as)) : TE Γ (biE (biD .sorted) (consA false fa nilA)) (ga ∧ as.length ≤ sizeLine) (lF (iF D) (as.mergeSort le)) Γ1 :=
  te_bi1 (r := .nl (sortD (as.map D))) ha hd (fun h => by
    have h : (as.map D).length ≤ sizeLine := by rw [List.length_map]; exact h
    simp only [tpD, biD, OrD.so as, h, decide_true, Bool.and_self, if_true]) (by
    have : sortD (as.map D) = (as.mergeSort le).map D := by
      rw [sortD, List.map_mergeSort (r := le) (s := PySem.W.dataLe false id) (fun a _ b _ => (OrD.le (D := D) a b).symm)]
    rw [this]; exact lv_nl _)
theorem mkTup_parts : ∀ xs : List LV, (mkTup xs).parts = some xs := by
  have key : ∀ (xs : List LV) (ds : List PyData), mkTup.allImm xs = some ds → ds.map LV.imm = xs := by
    intro xs
    induction xs with
    | nil => intro ds h; cases h; rfl
    | cons x xs ih =>
      intro ds h
      cases x with
      | imm d =>
        simp only [mkTup.allImm] at h
        cases e : mkTup.allImm xs with
        | none => rw [e] at h; cases h
        | some es => rw [e] at h; cases h; rw [List.map_cons, ih es e]
      | _ => cases h
  intro xs
  simp only [mkTup]
  cases e : mkTup.allImm xs with
  | none => rfl
  | some ds => simp only [LV.parts, key xs ds e]
theorem mkTup_nl {xs : List LV} (h : nlAll xs = true) : (mkTup xs).nl = true := by
  simp only [mkTup]
  cases e : mkTup.allImm xs with
  | none =>
    simp only [LV.nl]
    induction xs with
    | nil => rfl
    | cons x xs ih =>
      simp only [nlAll, List.all_cons, Bool.and_eq_true] at h
      simp only [LV.nls, h.1, Bool.true_and]
      cases e' : mkTup.allImm xs with
      | none => exact ih h.2 e'
      | some ds =>
        have key : ∀ (xs : List LV), xs.all LV.nl = true → LV.nls xs = true := fun xs => by
          induction xs with
          | nil => intro _; rfl
          | cons x xs ih => intro h; simp only [List.all_cons, Bool.and_eq_true] at h; simp only [LV.nls, h.1, ih h.2, Bool.and_self]
        exact key xs h.2
  | some ds => rfl
theorem te_tupO (ha : TA Γ gA ga xs Γ1) (hl : xs.length ≤ 1000) : TE Γ (tupE gA) ga (mkTup xs) Γ1 := fun q sl m => by
  obtain ⟨s1, e1, m1⟩ := ha q sl m
  exact ⟨s1, ev_tup e1 (le_small hl) rfl, m1⟩
end
section
variable {ρ lam σ σ' α β γ τ : Type} {io : List Nat} {Λ : lam → List SP} {R : ρ → LV} {O : ρ → List LV} {Φ : σ → List SP}
variable {D : α → PyData} {K : α → LV} {K2 : β → LV} {K3 : γ → LV}
variable {Γ Γ1 Γ2 Γ3 Δ : List SP} {gA gB : LS → Res (List LV × LS)} {a b : LS → SR} {g g' : Prop} {x y z : LV} {i j l : Nat}
/-- several names at once, the values laid into a tuple -/
theorem tb_asp2 {v : α} {w : β} {o : α → β → Out ρ lam σ} (h : TA Γ gA g [K v, K2 w] Γ1) (hg : g' → g) (k : ∀ x y, TB io Λ R O ((Γ1.set i (.is (K x))).set j (.is (K2 y))) b (o x y) Φ) [h1 : NlV (K v)] [h2 : NlV (K2 w)] (hi : Nat.blt i Γ1.length = true) (hj : Nat.blt j Γ1.length = true) : TB io Λ R O Γ (seqS (asgS (.tp (.cons (.nm i) (.cons (.nm j) .nil))) (tupE gA)) b) (gu g' (lt v fun x => lt w fun y => o x y)) Φ := by
  refine tb_s (ts_asg (Δ := (Γ1.set i (.is (K v))).set j (.is (K2 w))) (te_tupO h (by simp)) (mkTup_nl (nl2 h1.nl h2.nl)) fun sl m => ?_) hg (k v w)
  have q1 : i < sl.length := by rw [← m.len]; exact Nat.blt_eq.mp hi
  have q2 : j < sl.length := by rw [← m.len]; exact Nat.blt_eq.mp hj
  exact ⟨(sl.set i (some (K v))).set j (some (K2 w)), by simp [bindT, mkTup_parts, MP.bindL, q1, q2], (m.set (p := .is (K v)) (o := some (K v)) rfl i).set (p := .is (K2 w)) (o := some (K2 w)) rfl j⟩
theorem tb_asp3 {v : α} {w : β} {u : γ} {o : α → β → γ → Out ρ lam σ} (h : TA Γ gA g [K v, K2 w, K3 u] Γ1) (hg : g' → g) (k : ∀ x y z, TB io Λ R O (((Γ1.set i (.is (K x))).set j (.is (K2 y))).set l (.is (K3 z))) b (o x y z) Φ) [h1 : NlV (K v)] [h2 : NlV (K2 w)] [h3 : NlV (K3 u)] (hi : Nat.blt i Γ1.length = true) (hj : Nat.blt j Γ1.length = true) (hl : Nat.blt l Γ1.length = true) : TB io Λ R O Γ (seqS (asgS (.tp (.cons (.nm i) (.cons (.nm j) (.cons (.nm l) .nil)))) (tupE gA)) b) (gu g' (lt v fun x => lt w fun y => lt u fun z => o x y z)) Φ := by
  refine tb_s (ts_asg (Δ := ((Γ1.set i (.is (K v))).set j (.is (K2 w))).set l (.is (K3 u))) (te_tupO h (by simp)) (mkTup_nl (nl3 h1.nl h2.nl h3.nl)) fun sl m => ?_) hg (k v w u)
  have q1 : i < sl.length := by rw [← m.len]; exact Nat.blt_eq.mp hi
  have q2 : j < sl.length := by rw [← m.len]; exact Nat.blt_eq.mp hj
  have q3 : l < sl.length := by rw [← m.len]; exact Nat.blt_eq.mp hl
  exact ⟨((sl.set i (some (K v))).set j (some (K2 w))).set l (some (K3 u)), by simp [bindT, mkTup_parts, MP.bindL, q1, q2, q3], ((m.set (p := .is (K v)) (o := some (K v)) rfl i).set (p := .is (K2 w)) (o := some (K2 w)) rfl j).set (p := .is (K3 u)) (o := some (K3 u)) rfl l⟩
/-- the last statement of a block, a loop -/
theorem tb_last {S : σ' → List SP} {oa : Out ρ lam σ'} {f : σ' → σ} (h : TB io Λ R O Γ a oa S) (k : ∀ s, Wk (S s) (Φ (f s))) : TB io Λ R O Γ a (oa.bind fun s => .nx (f s)) Φ := fun sl m => by
  have q := h sl m
  cases oa with
  | un => trivial
  | nx s =>
    obtain ⟨s1, e1, m1⟩ := q
    exact ⟨s1, e1, k s s1 m1⟩
  | rt r => exact q
  | ex c ps => exact q
  | bk s => exact q
  | ct s => exact q
end
/-! orders -/
class LeD {α : Type} (D : α → PyData) where
  le : α → α → Bool
def leD {α : Type} (D : α → PyData) [LeD D] : α → α → Bool := LeD.le D
instance : LeD nD := ⟨fun a b => decide (a ≤ b)⟩
instance : LeD zD := ⟨fun a b => decide (a ≤ b)⟩
theorem dataLt_n (a b : Nat) : PySem.W.dataLt (nD a) (nD b) = decide (a < b) := by
  rw [show PySem.W.dataLt (nD a) (nD b) = decide ((a : Int) < (b : Int)) from PySem.W.dataLt_int _ _]
  exact decide_eq_decide.mpr (by omega)
theorem so_int {α : Type} (f : α → Int) (xs : List α) : sortable (xs.map fun a => PyData.int (f a)) = true := by
  simp only [sortable, Bool.and_eq_true, Bool.or_eq_true, List.all_eq_true, List.mem_map, forall_exists_index, and_imp, forall_apply_eq_imp_iff₂]
  exact ⟨⟨fun a _ => okD_int _, fun a _ b _ => alike_int _ _⟩, .inr fun a _ => rfl⟩
instance : OrD nD (leD nD) := ⟨fun a b => by
  show (!PySem.W.dataLt (nD b) (nD a)) = decide (a ≤ b)
  rw [dataLt_n]
  by_cases h : a ≤ b
  · rw [decide_eq_true h, decide_eq_false (by omega)]; rfl
  · rw [decide_eq_false h, decide_eq_true (by omega)]; rfl, fun xs => so_int _ xs⟩
instance : OrD zD (leD zD) := ⟨fun a b => by
  show (!PySem.W.dataLt (zD b) (zD a)) = decide (a ≤ b)
  rw [show PySem.W.dataLt (zD b) (zD a) = decide (b < a) from PySem.W.dataLt_int _ _]
  by_cases h : a ≤ b
  · rw [decide_eq_true h, decide_eq_false (by omega)]; rfl
  · rw [decide_eq_false h, decide_eq_true (by omega)]; rfl, fun xs => so_int _ xs⟩
end TL
/-! TL.5: plain facts about the readings -/
namespace TL
open PySem PySem.Spec PyProof.Rows L2 MP
section
variable {ρ lam σ τ α β : Type}
theorem fin_rt (r : ρ) (k : σ → Option ρ) : finO (.rt r : Out ρ lam σ) k = some r := rfl
theorem fin_nx (s : σ) (k : σ → Option ρ) : finO (.nx s : Out ρ lam σ) k = k s := rfl
theorem bind_if (p : Bool) (a b : Out ρ lam σ) (f : σ → Out ρ lam τ) : (if p then a else b).bind f = if p then a.bind f else b.bind f := by cases p <;> rfl
theorem bind_gu (p : Prop) (o : Out ρ lam σ) (f : σ → Out ρ lam τ) : (gu p o).bind f = gu p (o.bind f) := by
  by_cases h : p <;> simp [gu, h, Out.bind]
theorem cif_s [Inhabited α] (p : Bool) (a : α) : cif p (some a) = some (if p then a else default) := by cases p <;> rfl
theorem cif_e [Inhabited α] {p : Bool} {o : Option α} {a : α} (h : o = some a) : cif p o = some (if p then a else default) := by rw [h, cif_s]
/-- a call by two ways, both alike -/
theorem both (p : Bool) (a b : α) : (if p then (if p then a else b) else (if (!p) then a else b)) = a := by cases p <;> rfl
theorem forO_nil (f : α → σ → Out ρ σ σ) (s : σ) : (forO f [] s : Out ρ lam σ) = .nx s := rfl
theorem forO_nx {f : α → σ → Out ρ σ σ} {a : α} {as : List α} {s s' : σ} (h : f a s = .nx s') : (forO f (a :: as) s : Out ρ lam σ) = forO f as s' := by simp only [forO, h]
theorem forO_inv0 {f : α → σ → Out ρ σ σ} (I : List α → σ → Prop) {as : List α} {s : σ} (h : I [] s) (hs : ∀ pre x rest, as = pre ++ x :: rest → ∀ s, I pre s → ∃ s', (f x s = .nx s' ∨ f x s = .ct s') ∧ I (pre ++ [x]) s') : ∃ s', (forO f as s : Out ρ lam σ) = .nx s' ∧ I as s' := by
  have := forO_inv (lam := lam) I (as := as) (done := []) h fun pre x rest q => hs pre x rest (by simpa using q)
  simpa using this
/-- each turn lays something behind -/
theorem forO_app {f : α → List β → Out ρ (List β) (List β)} (F : α → List β) {as : List α} {s : List β} (h : ∀ pre a rest, as = pre ++ a :: rest → f a (s ++ pre.flatMap F) = .nx (s ++ pre.flatMap F ++ F a)) : (forO f as s : Out ρ lam (List β)) = .nx (s ++ as.flatMap F) := by
  obtain ⟨s', e, h'⟩ := forO_inv (lam := lam) (f := f) (fun done t => t = s ++ done.flatMap F) (as := as) (done := []) (s := s) (by simp) fun pre a rest q t ht => by
    subst ht
    exact ⟨_, .inl (h pre a rest (by simpa using q)), by simp [List.append_assoc]⟩
  rw [e, h']; simp
theorem enT_eq [Inhabited α] : ∀ (as : List α) (n : Nat), enT n as = (List.range as.length).map fun i => (n + i, as.getD i default)
  | [], _ => rfl
  | a :: as, n => by
    rw [enT, enT_eq as (n + 1), List.length_cons, List.range_succ_eq_map, List.map_cons, List.map_map]
    simp only [List.cons.injEq]
    refine ⟨by simp, List.map_congr_left fun i _ => ?_⟩
    simp only [Function.comp_apply, List.getD_cons_succ, Prod.mk.injEq, and_true]
    omega
theorem enT_len (as : List α) (n : Nat) : (enT n as).length = as.length := by
  induction as generalizing n with
  | nil => rfl
  | cons a as ih => rw [enT, List.length_cons, List.length_cons, ih]
theorem enT_mem {as : List α} {n : Nat} {p : Nat × α} (h : p ∈ enT n as) : p.2 ∈ as := by
  induction as generalizing n with
  | nil => cases h
  | cons a as ih =>
    rcases List.mem_cons.mp h with rfl | h
    · exact List.mem_cons_self
    · exact List.mem_cons_of_mem _ (ih h)
theorem six (l n d : Nat) : HT.sIx l d (some (n : Int)) = min n l := by
  simp only [HT.sIx]
  rw [if_neg (by omega)]
  simp
theorem cut_lo (as : List α) (n : Nat) : MP.cutD as (some (n : Int)) none = as.drop n := by
  have e : HT.sIx as.length as.length none = as.length := rfl
  simp only [MP.cutD, six, e]
  by_cases h : n ≤ as.length
  · rw [Nat.min_eq_left h, List.take_of_length_le (by simp)]
  · rw [Nat.min_eq_right (by omega), List.drop_eq_nil_of_le (Nat.le_refl _), List.drop_eq_nil_of_le (by omega)]; simp
theorem cut_hi (as : List α) (n : Nat) : MP.cutD as none (some (n : Int)) = as.take n := by
  have e : HT.sIx as.length 0 none = 0 := rfl
  simp only [MP.cutD, six, e, List.drop_zero, Nat.sub_zero]
  by_cases h : n ≤ as.length
  · rw [Nat.min_eq_left h]
  · rw [Nat.min_eq_right (by omega), List.take_of_length_le (Nat.le_refl _), List.take_of_length_le (by omega)]
theorem mo_le {i j : Int} (hi : i.natAbs ≤ 1000000000) (hj : j.natAbs ≤ 1000000000) : MO i j := by
  have l : ∀ {n : Nat}, n ≤ 1000000000 → n.log2 ≤ 100 := fun {n} h => by
    by_cases z : n = 0
    · subst z; exact Nat.zero_le _
    · exact Nat.le_of_lt ((Nat.log2_lt z).mpr (Nat.lt_of_le_of_lt h (by decide)))
  have := l hi
  have := l hj
  simp only [MO, mulOk, decide_eq_true_eq]
  omega
end
/-! what can be shown -/
structure Sh (k m : Nat) (d : PyData) : Prop where
  h1 : d.showable = true
  h2 : d.depth ≤ k
  h3 : d.leavesShort 13 = true
  h4 : d.bulk ≤ m
  h5 : d.plain = true
theorem Sh.mono {k m k' m' : Nat} {d : PyData} (h : Sh k m d) (a : k ≤ k') (b : m ≤ m') : Sh k' m' d := ⟨h.h1, Nat.le_trans h.h2 a, h.h3, Nat.le_trans h.h4 b, h.h5⟩
theorem Sh.ro {k m : Nat} {d : PyData} (h : Sh k m d) (hk : k ≤ 40) (hm : m ≤ 2 ^ 20) : RO d := repr_ok h.h1 (Nat.le_trans h.h2 hk) h.h3 (Nat.le_trans h.h4 hm) h.h5
structure Shs (k m n : Nat) (ds : List PyData) : Prop where
  h1 : PyData.showableAll ds = true
  h2 : PyData.depthAll ds ≤ k
  h3 : PyData.leavesShortAll 13 ds = true
  h4 : PyData.bulkAll ds ≤ n * (m + 1)
  h5 : PyData.plainAll ds = true
theorem shs {k m n : Nat} : ∀ {ds : List PyData}, (∀ d ∈ ds, Sh k m d) → ds.length ≤ n → Shs k m n ds
  | [], _, _ => ⟨rfl, Nat.zero_le _, rfl, Nat.zero_le _, rfl⟩
  | d :: ds, h, hn => by
    have a := h d List.mem_cons_self
    cases n with
    | zero => simp at hn
    | succ n =>
    have b := shs (n := n) (ds := ds) (fun e he => h e (List.mem_cons_of_mem _ he)) (by simpa using hn)
    refine ⟨by simp [PyData.showableAll, a.h1, b.h1], ?_, by simp [PyData.leavesShortAll, a.h3, b.h3], ?_, by simp [PyData.plainAll, a.h5, b.h5]⟩
    · have := a.h2; have := b.h2
      simp only [PyData.depthAll]; omega
    · have := a.h4; have := b.h4
      simp only [PyData.bulkAll, Nat.add_mul] at *; omega
theorem sh_int {i : Int} (h : i.natAbs < 10 ^ 12) : Sh 0 0 (.int i) := by
  refine ⟨?_, Nat.le_refl _, ?_, Nat.le_refl _, rfl⟩
  · simp only [PyData.showable, decide_eq_true_eq]
    by_cases z : i.natAbs = 0
    · rw [z]; decide
    · exact Nat.lt_trans ((Nat.log2_lt z).mpr (Nat.lt_trans h (by decide : 10 ^ 12 < 2 ^ 60))) (by decide)
  · have e := int_text_length_le10 (a := i) (k := 12) (by decide) h
    have q : (PyData.int i).shown.length ≤ 13 := by
      show (Str.ofString (toString i)).length ≤ 13
      rw [PySem.ofString_length]
      exact e
    simp only [PyData.leavesShort]
    exact decide_eq_true q
theorem sh_n {x : Nat} (h : x < 10 ^ 12) : Sh 0 0 (nD x) := sh_int (by rw [Int.natAbs_natCast]; exact h)
theorem sh_b (b : Bool) : Sh 0 0 (bD b) := by cases b <;> exact ⟨rfl, Nat.le_refl _, rfl, Nat.le_refl _, rfl⟩
theorem sh_u : Sh 0 0 (uD ()) := ⟨rfl, Nat.le_refl _, rfl, Nat.le_refl _, rfl⟩
section
variable {α β γ : Type} {D : α → PyData} {E : β → PyData} {G : γ → PyData} {k m : Nat}
theorem sh_t {as : List α} (n : Nat) (h : ∀ a ∈ as, Sh k m (D a)) (hn : as.length ≤ n) : Sh (k + 1) (n * (m + 1)) (tpD D as) := by
  have a := shs (k := k) (m := m) (n := n) (ds := as.map D) (fun d hd => by
    obtain ⟨a, ha, rfl⟩ := List.mem_map.mp hd
    exact h a ha) (by rwa [List.length_map])
  refine ⟨a.h1, ?_, a.h3, a.h4, a.h5⟩
  have := a.h2
  simp only [tpD, PyData.depth]; omega
theorem sh_l {as : List α} (n : Nat) (h : ∀ a ∈ as, Sh k m (D a)) (hn : as.length ≤ n) : Sh (k + 1) (n * (m + 1)) (lsD D as) := by
  have a := shs (k := k) (m := m) (n := n) (ds := as.map D) (fun d hd => by
    obtain ⟨a, ha, rfl⟩ := List.mem_map.mp hd
    exact h a ha) (by rwa [List.length_map])
  refine ⟨a.h1, ?_, a.h3, a.h4, a.h5⟩
  have := a.h2
  simp only [lsD, PyData.depth]; omega
theorem sh_p2 {p : α × β} (h1 : Sh k m (D p.1)) (h2 : Sh k m (E p.2)) : Sh (k + 1) (2 * (m + 1)) (p2D D E p) := by
  have a := shs (k := k) (m := m) (n := 2) (ds := [D p.1, E p.2]) (fun d hd => by
    simp only [List.mem_cons, List.not_mem_nil, or_false] at hd
    rcases hd with rfl | rfl <;> assumption) (Nat.le_refl _)
  refine ⟨a.h1, ?_, a.h3, a.h4, a.h5⟩
  have := a.h2
  simp only [p2D, PyData.depth]; omega
theorem sh_p3 {p : α × β × γ} (h1 : Sh k m (D p.1)) (h2 : Sh k m (E p.2.1)) (h3 : Sh k m (G p.2.2)) : Sh (k + 1) (3 * (m + 1)) (p3D D E G p) := by
  have a := shs (k := k) (m := m) (n := 3) (ds := [D p.1, E p.2.1, G p.2.2]) (fun d hd => by
    simp only [List.mem_cons, List.not_mem_nil, or_false] at hd
    rcases hd with rfl | rfl | rfl <;> assumption) (Nat.le_refl _)
  refine ⟨a.h1, ?_, a.h3, a.h4, a.h5⟩
  have := a.h2
  simp only [p3D, PyData.depth]; omega
theorem sh_c {d : α} {ds : List α} {P : α → Prop} (h : P d) (t : ∀ e ∈ ds, P e) : ∀ e ∈ d :: ds, P e := fun e he => by
  rcases List.mem_cons.mp he with rfl | he
  · exact h
  · exact t e he
theorem sh_e {P : α → Prop} : ∀ e ∈ ([] : List α), P e := fun _ h => nomatch h
end
end TL
namespace JM
/-! leagues as rows of sides -/
abbrev Lg := List (List Nat)
def gd (R : Lg) (x : Nat) : List Nat := R.getD x []
structure Tn (n : Nat) (R : Lg) : Prop where
  len : R.length = n
  nd : ∀ x, (gd R x).Nodup
  lt : ∀ x y, y ∈ gd R x → y < n
  anti : ∀ x y, y ∈ gd R x → x ∉ gd R y
structure Wf (n : Nat) (L : Lg) : Prop where
  len : L.length = n
  asc : ∀ x, (gd L x).Pairwise (· < ·)
  lt : ∀ x y, y ∈ gd L x → y < n
  anti : ∀ x y, y ∈ gd L x → x ∉ gd L y
theorem gd_lt {R : Lg} {x y : Nat} (h : y ∈ gd R x) : x < R.length := by
  by_cases z : x < R.length
  · exact z
  · rw [gd, List.getD_eq_getElem?_getD, List.getElem?_eq_none (by omega)] at h; cases h
theorem gd_get {R : Lg} {x : Nat} (h : x < R.length) : R[x]? = some (gd R x) := by
  simp [gd, List.getD_eq_getElem?_getD, List.getElem?_eq_getElem h]
theorem gd_set (R : Lg) (a : Nat) (r : List Nat) (x : Nat) : gd (R.set a r) x = if x = a ∧ a < R.length then r else gd R x := by
  simp only [gd, List.getD_eq_getElem?_getD, List.getElem?_set]
  by_cases h : a = x
  · subst h
    by_cases z : a < R.length
    · simp [z]
    · simp [z, List.getElem?_eq_none (Nat.le_of_not_lt z)]
  · have : ¬ x = a := fun q => h q.symm
    simp [h, this]
theorem Wf.ne {n : Nat} {L : Lg} (W : Wf n L) {x y : Nat} (h : y ∈ gd L x) : x ≠ y := fun e => by subst e; exact W.anti _ _ h h
theorem Wf.tn {n : Nat} {L : Lg} (W : Wf n L) : Tn n L := ⟨W.len, fun x => (W.asc x).imp fun h => Nat.ne_of_lt h, W.lt, W.anti⟩
/-- each two sides have met -/
def Tot (n : Nat) (R : Lg) : Prop := ∀ x y, x < n → y < n → x ≠ y → y ∈ gd R x ∨ x ∈ gd R y
/-! rings, two ways -/
abbrev Tri := Nat × Nat × Nat
def ringsM (L : Lg) : List Tri := (List.range L.length).flatMap fun a => (gd L a).flatMap fun b => ((gd L b).filter fun c => decide (a < b) && (decide (a < c) && decide (a ∈ gd L c))).map fun c => (a, b, c)
def ringAt (L : Lg) (a b c : Nat) : List Tri :=
  (if b ∈ gd L a ∧ c ∈ gd L b ∧ a ∈ gd L c then [(a, b, c)] else []) ++ (if c ∈ gd L a ∧ b ∈ gd L c ∧ a ∈ gd L b then [(a, c, b)] else [])
def up (a n : Nat) : List Nat := List.range' (a + 1) (n - (a + 1))
def lawM (L : Lg) : List Tri := (List.range L.length).flatMap fun a => (up a L.length).flatMap fun b => (up b L.length).flatMap fun c => ringAt L a b c
def ltT (p q : Tri) : Prop := p.1 < q.1 ∨ (p.1 = q.1 ∧ (p.2.1 < q.2.1 ∨ (p.2.1 = q.2.1 ∧ p.2.2 < q.2.2)))
theorem mem_up {a n x : Nat} : x ∈ up a n ↔ a < x ∧ x < n := by
  simp only [up, List.mem_range'_1]; omega
theorem up_asc (a n : Nat) : (up a n).Pairwise (· < ·) := List.pairwise_lt_range'
theorem mem_ringAt {L : Lg} {a b c : Nat} {p : Tri} : p ∈ ringAt L a b c ↔ (p = (a, b, c) ∧ b ∈ gd L a ∧ c ∈ gd L b ∧ a ∈ gd L c) ∨ (p = (a, c, b) ∧ c ∈ gd L a ∧ b ∈ gd L c ∧ a ∈ gd L b) := by
  unfold ringAt
  rw [List.mem_append]
  constructor
  · rintro (h | h)
    · split at h
      · exact .inl ⟨by simpa using h, by assumption⟩
      · cases h
    · split at h
      · exact .inr ⟨by simpa using h, by assumption⟩
      · cases h
  · rintro (⟨e, h⟩ | ⟨e, h⟩)
    · left; rw [if_pos h, e]; exact List.mem_cons_self
    · right; rw [if_pos h, e]; exact List.mem_cons_self
theorem mem_ringsM {L : Lg} {p : Tri} : p ∈ ringsM L ↔ p.2.1 ∈ gd L p.1 ∧ p.2.2 ∈ gd L p.2.1 ∧ p.1 ∈ gd L p.2.2 ∧ p.1 < p.2.1 ∧ p.1 < p.2.2 := by
  obtain ⟨a, b, c⟩ := p
  simp only [ringsM, List.mem_flatMap, List.mem_map, List.mem_filter, List.mem_range, Bool.and_eq_true, decide_eq_true_eq, Prod.mk.injEq]
  constructor
  · rintro ⟨a', _, b', hb, c', ⟨hc, h1, h2, h3⟩, rfl, rfl, rfl⟩
    exact ⟨hb, hc, h3, h1, h2⟩
  · rintro ⟨hb, hc, h3, h1, h2⟩
    exact ⟨a, gd_lt hb, b, hb, c, ⟨hc, h1, h2, h3⟩, rfl, rfl, rfl⟩
theorem mem_lawM {n : Nat} {L : Lg} (W : Wf n L) {p : Tri} : p ∈ lawM L ↔ p.2.1 ∈ gd L p.1 ∧ p.2.2 ∈ gd L p.2.1 ∧ p.1 ∈ gd L p.2.2 ∧ p.1 < p.2.1 ∧ p.1 < p.2.2 := by
  obtain ⟨x, y, z⟩ := p
  have hl := W.len
  simp only [lawM, List.mem_flatMap, List.mem_range, mem_up, mem_ringAt, Prod.mk.injEq]
  constructor
  · rintro ⟨a, ha, b, hb, c, hc, (⟨⟨rfl, rfl, rfl⟩, h⟩ | ⟨⟨rfl, rfl, rfl⟩, h⟩)⟩
    · exact ⟨h.1, h.2.1, h.2.2, by omega, by omega⟩
    · exact ⟨h.1, h.2.1, h.2.2, by omega, by omega⟩
  · rintro ⟨h1, h2, h3, h4, h5⟩
    have := W.lt _ _ h1
    have := W.lt _ _ h2
    have := W.lt _ _ h3
    have ne := W.ne h2
    by_cases q : y < z
    · exact ⟨x, by omega, y, by omega, z, by omega, .inl ⟨⟨rfl, rfl, rfl⟩, h1, h2, h3⟩⟩
    · exact ⟨x, by omega, z, by omega, y, by omega, .inr ⟨⟨rfl, rfl, rfl⟩, h1, h2, h3⟩⟩
theorem rings_asc {n : Nat} {L : Lg} (W : Wf n L) : (ringsM L).Pairwise ltT := by
  unfold ringsM
  rw [List.pairwise_flatMap]
  refine ⟨fun a _ => ?_, List.pairwise_lt_range.imp fun {a a'} h p hp q hq => ?_⟩
  · rw [List.pairwise_flatMap]
    refine ⟨fun b _ => ?_, (W.asc a).imp fun {b b'} h p hp q hq => ?_⟩
    · rw [List.pairwise_map]
      exact ((W.asc b).filter _).imp fun {c c'} h => .inr ⟨rfl, .inr ⟨rfl, h⟩⟩
    · obtain ⟨c, _, rfl⟩ := List.mem_map.mp hp
      obtain ⟨c', _, rfl⟩ := List.mem_map.mp hq
      exact .inr ⟨rfl, .inl h⟩
  · obtain ⟨b, _, hp⟩ := List.mem_flatMap.mp hp
    obtain ⟨c, _, rfl⟩ := List.mem_map.mp hp
    obtain ⟨b', _, hq⟩ := List.mem_flatMap.mp hq
    obtain ⟨c', _, rfl⟩ := List.mem_map.mp hq
    exact .inl h
theorem ltT_ne {p q : Tri} (h : ltT p q) : p ≠ q := fun e => by subst e; unfold ltT at h; omega
theorem rings_nodup {n : Nat} {L : Lg} (W : Wf n L) : (ringsM L).Nodup := (rings_asc W).imp ltT_ne
theorem law_nodup {L : Lg} : (lawM L).Nodup := by
  unfold lawM
  have key : ∀ {a b c : Nat} {p : Tri}, p ∈ ringAt L a b c → p = (a, b, c) ∨ p = (a, c, b) := fun h => (mem_ringAt.mp h).imp (·.1) (·.1)
  rw [List.Nodup, List.pairwise_flatMap]
  refine ⟨fun a _ => ?_, List.pairwise_lt_range.imp fun {a a'} h p hp q hq => ?_⟩
  · rw [List.pairwise_flatMap]
    refine ⟨fun b _ => ?_, (up_asc a _).imp fun {b b'} h p hp q hq => ?_⟩
    · rw [List.pairwise_flatMap]
      refine ⟨fun c hc => ?_, (up_asc b _).imp_of_mem fun {c c'} m m' h p hp q hq => ?_⟩
      · have hc := mem_up.mp hc
        unfold ringAt
        split <;> split <;> simp <;> omega
      · have m := mem_up.mp m
        have m' := mem_up.mp m'
        rcases key hp with rfl | rfl <;> rcases key hq with rfl | rfl <;> simp <;> omega
    · obtain ⟨c, m, hp⟩ := List.mem_flatMap.mp hp
      obtain ⟨c', m', hq⟩ := List.mem_flatMap.mp hq
      have m := mem_up.mp m
      have m' := mem_up.mp m'
      rcases key hp with rfl | rfl <;> rcases key hq with rfl | rfl <;> simp <;> omega
  · obtain ⟨b, _, hp⟩ := List.mem_flatMap.mp hp
    obtain ⟨c, _, hp⟩ := List.mem_flatMap.mp hp
    obtain ⟨b', _, hq⟩ := List.mem_flatMap.mp hq
    obtain ⟨c', _, hq⟩ := List.mem_flatMap.mp hq
    rcases key hp with rfl | rfl <;> rcases key hq with rfl | rfl <;> simp <;> omega
theorem rings_perm {n : Nat} {L : Lg} (W : Wf n L) : (ringsM L).Perm (lawM L) := (List.perm_ext_iff_of_nodup (rings_nodup W) law_nodup).2 fun p => by rw [mem_ringsM, mem_lawM W]
/-! a match turned -/
def turnM (R : Lg) (a b : Nat) : Lg :=
  if b ∈ gd R a then (R.set a ((gd R a).erase b)).set b (gd (R.set a ((gd R a).erase b)) b ++ [a]) else (R.set b ((gd R b).erase a)).set a (gd (R.set b ((gd R b).erase a)) a ++ [b])
theorem move_tn {n : Nat} {R : Lg} (T : Tn n R) {a b : Nat} (h : b ∈ gd R a) :
    Tn n ((R.set a ((gd R a).erase b)).set b (gd (R.set a ((gd R a).erase b)) b ++ [a])) ∧ ∀ x y, y ∈ gd ((R.set a ((gd R a).erase b)).set b (gd (R.set a ((gd R a).erase b)) b ++ [a])) x ↔ (y ∈ gd R x ∧ ¬(x = a ∧ y = b)) ∨ (x = b ∧ y = a) := by
  have ha : a < R.length := gd_lt h
  have hb : b < R.length := T.len ▸ T.lt _ _ h
  have ne : a ≠ b := fun e => by subst e; exact T.anti _ _ h h
  have ne' : ¬ b = a := fun e => ne e.symm
  have e1 : gd (R.set a ((gd R a).erase b)) b = gd R b := by rw [gd_set, if_neg (by simp [ne'])]
  rw [e1]
  have hg : ∀ x, gd ((R.set a ((gd R a).erase b)).set b (gd R b ++ [a])) x = if x = b then gd R b ++ [a] else if x = a then (gd R a).erase b else gd R x := fun x => by
    rw [gd_set, gd_set, List.length_set]
    simp [ha, hb]
  have hm : ∀ x y, y ∈ gd ((R.set a ((gd R a).erase b)).set b (gd R b ++ [a])) x ↔ (y ∈ gd R x ∧ ¬(x = a ∧ y = b)) ∨ (x = b ∧ y = a) := fun x y => by
    rw [hg]
    by_cases h1 : x = b
    · subst h1
      simp [ne']
    · rw [if_neg h1]
      by_cases h2 : x = a
      · subst h2
        rw [if_pos rfl, (T.nd x).mem_erase_iff]
        simp [h1, and_comm]
      · rw [if_neg h2]
        simp [h1, h2]
  refine ⟨⟨by simp [T.len], fun x => ?_, fun x y q => ?_, fun x y q => ?_⟩, hm⟩
  · rw [hg]
    split
    · refine List.nodup_append.mpr ⟨T.nd b, by simp, fun u hu v hv e => ?_⟩
      rw [List.mem_singleton] at hv
      subst hv
      subst e
      exact T.anti _ _ h hu
    · split
      · exact (T.nd a).erase b
      · exact T.nd x
  · rcases (hm x y).mp q with ⟨q, _⟩ | ⟨_, rfl⟩
    · exact T.lt _ _ q
    · exact T.len ▸ ha
  · intro r
    rcases (hm x y).mp q with ⟨q, q'⟩ | ⟨rfl, rfl⟩ <;> rcases (hm _ _).mp r with ⟨r, r'⟩ | ⟨h1, h2⟩
    · exact T.anti _ _ q r
    · exact q' ⟨h2, h1⟩
    · exact r' ⟨rfl, rfl⟩
    · exact ne h1
theorem turn_tn {n : Nat} {R : Lg} (T : Tn n R) {a b : Nat} (h : b ∈ gd R a ∨ a ∈ gd R b) :
    Tn n (turnM R a b) ∧ ∀ x y, ¬((x = a ∧ y = b) ∨ (x = b ∧ y = a)) → (y ∈ gd (turnM R a b) x ↔ y ∈ gd R x) := by
  unfold turnM
  split
  case isTrue hb =>
    refine ⟨(move_tn T hb).1, fun x y n => ?_⟩
    rw [(move_tn T hb).2]
    constructor
    · rintro (⟨q, _⟩ | q)
      · exact q
      · exact (n (.inr q)).elim
    · exact fun q => .inl ⟨q, fun z => n (.inl z)⟩
  case isFalse hb =>
    have hb : a ∈ gd R b := h.resolve_left hb
    refine ⟨(move_tn T hb).1, fun x y n => ?_⟩
    rw [(move_tn T hb).2]
    constructor
    · rintro (⟨q, _⟩ | q)
      · exact q
      · exact (n (.inl q)).elim
    · exact fun q => .inl ⟨q, fun z => n (.inr z)⟩
/-- three matches of a ring -/
theorem turn3 {n : Nat} {R : Lg} (T : Tn n R) {a b c : Nat} (h1 : b ∈ gd R a) (h2 : c ∈ gd R b) (h3 : a ∈ gd R c) :
    (c ∈ gd (turnM R a b) b) ∧ (a ∈ gd (turnM (turnM R a b) b c) c) ∧ Tn n (turnM R a b) ∧ Tn n (turnM (turnM R a b) b c) ∧ Tn n (turnM (turnM (turnM R a b) b c) a c) := by
  have n1 : a ≠ b := fun e => by subst e; exact T.anti _ _ h1 h1
  have n2 : b ≠ c := fun e => by subst e; exact T.anti _ _ h2 h2
  have n3 : c ≠ a := fun e => by subst e; exact T.anti _ _ h3 h3
  obtain ⟨t1, m1⟩ := turn_tn T (.inl h1)
  have h2' := (m1 b c (by omega)).mpr h2
  have h3' := (m1 c a (by omega)).mpr h3
  obtain ⟨t2, m2⟩ := turn_tn t1 (.inl h2')
  have h3'' := (m2 c a (by omega)).mpr h3'
  exact ⟨h2', h3'', t1, t2, (turn_tn t2 (.inr h3'')).1⟩
/-! a league drawn -/
def pairs (n : Nat) : List (Nat × Nat) := (List.range n).flatMap fun a => (up a n).map fun b => (a, b)
theorem pairs_nodup (n : Nat) : (pairs n).Nodup := by
  unfold pairs
  rw [List.Nodup, List.pairwise_flatMap]
  refine ⟨fun a _ => ?_, List.pairwise_lt_range.imp fun {a a'} h p hp q hq => ?_⟩
  · rw [List.pairwise_map]
    exact (up_asc a n).imp fun {b b'} h => by simp; omega
  · obtain ⟨b, _, rfl⟩ := List.mem_map.mp hp
    obtain ⟨b', _, rfl⟩ := List.mem_map.mp hq
    simp; omega
theorem mem_pairs {n : Nat} {p : Nat × Nat} : p ∈ pairs n ↔ p.1 < p.2 ∧ p.2 < n := by
  obtain ⟨x, y⟩ := p
  simp only [pairs, List.mem_flatMap, List.mem_map, List.mem_range, mem_up, Prod.mk.injEq]
  constructor
  · rintro ⟨a, _, b, h, rfl, rfl⟩; exact h
  · rintro h; exact ⟨x, by omega, y, h, rfl, rfl⟩
/-- rows while a league is drawn: only told of the matches done -/
structure Dr (n : Nat) (ord : List Nat) (done : List (Nat × Nat)) (R : Lg) : Prop where
  tn : Tn n R
  told : ∀ x y, y ∈ gd R x → ∃ p ∈ done, (ord[p.1]? = some x ∧ ord[p.2]? = some y) ∨ (ord[p.1]? = some y ∧ ord[p.2]? = some x)
  all : ∀ p ∈ done, ∀ x y, ord[p.1]? = some x → ord[p.2]? = some y → y ∈ gd R x ∨ x ∈ gd R y
theorem dr_nil (n : Nat) (ord : List Nat) : Dr n ord [] (List.replicate n []) := by
  have e : ∀ x, gd (List.replicate n ([] : List Nat)) x = [] := fun x => by
    simp only [gd, List.getD_eq_getElem?_getD, List.getElem?_replicate]
    split <;> rfl
  exact ⟨⟨by simp, fun x => by simp [e], fun x y h => by simp [e] at h, fun x y h => by simp [e] at h⟩, fun x y h => by simp [e] at h, fun p h => nomatch h⟩
theorem dr_step {n : Nat} {ord : List Nat} {done : List (Nat × Nat)} {R : Lg} (D : Dr n ord done R) (hn : ord.Nodup) (hlt : ∀ x ∈ ord, x < n) {i j x y : Nat} (hij : i < j) (hd : ∀ p ∈ done, p.1 < p.2) (hnew : (i, j) ∉ done)
    (hxy : (ord[i]? = some x ∧ ord[j]? = some y) ∨ (ord[i]? = some y ∧ ord[j]? = some x)) : Dr n ord (done ++ [(i, j)]) (R.set x (gd R x ++ [y])) := by
  have inj : ∀ {p q z : Nat}, ord[p]? = some z → ord[q]? = some z → p = q := fun {p q z} hp hq => by
    obtain ⟨lp, ep⟩ := List.getElem?_eq_some_iff.mp hp
    obtain ⟨lq, eq⟩ := List.getElem?_eq_some_iff.mp hq
    exact (List.getElem_inj hn).mp (ep.trans eq.symm)
  have hx : x ∈ ord := hxy.elim (fun h => List.mem_of_getElem? h.1) fun h => List.mem_of_getElem? h.2
  have hy : y ∈ ord := hxy.elim (fun h => List.mem_of_getElem? h.2) fun h => List.mem_of_getElem? h.1
  have ne : x ≠ y := fun e => by
    subst e
    have : i = j := by rcases hxy with h | h <;> exact inj h.1 h.2
    omega
  have no : ∀ u v, ((u = x ∧ v = y) ∨ (u = y ∧ v = x)) → v ∉ gd R u := fun u v huv hv => by
    obtain ⟨⟨p, q⟩, hp, h⟩ := D.told u v hv
    have := hd _ hp
    simp only at this h
    have e : p = i ∧ q = j := by
      rcases huv with ⟨rfl, rfl⟩ | ⟨rfl, rfl⟩ <;> rcases hxy with ⟨a1, a2⟩ | ⟨a1, a2⟩ <;> rcases h with ⟨b1, b2⟩ | ⟨b1, b2⟩
      all_goals first
        | exact ⟨inj b1 a1, inj b2 a2⟩
        | (exfalso; have e1 := inj b1 a2; have e2 := inj b2 a1; omega)
    exact hnew (e.1 ▸ e.2 ▸ hp)
  have hxl : x < R.length := D.tn.len ▸ hlt x hx
  have hg : ∀ u, gd (R.set x (gd R x ++ [y])) u = if u = x then gd R x ++ [y] else gd R u := fun u => by rw [gd_set]; simp [hxl]
  have hm : ∀ u v, v ∈ gd (R.set x (gd R x ++ [y])) u ↔ v ∈ gd R u ∨ (u = x ∧ v = y) := fun u v => by
    rw [hg]
    split
    · next h => subst h; simp
    · next h => simp [h]
  refine ⟨⟨by simp [D.tn.len], fun u => ?_, fun u v h => ?_, fun u v h r => ?_⟩, fun u v h => ?_, fun p hp u v hu hv => ?_⟩
  · rw [hg]
    split
    · refine List.nodup_append.mpr ⟨D.tn.nd x, by simp, fun a ha b hb e => ?_⟩
      rw [List.mem_singleton] at hb
      subst hb; subst e
      exact no _ _ (.inl ⟨rfl, rfl⟩) ha
    · exact D.tn.nd u
  · rcases (hm u v).mp h with h | ⟨_, rfl⟩
    · exact D.tn.lt _ _ h
    · exact hlt _ hy
  · rcases (hm u v).mp h with h | ⟨rfl, rfl⟩ <;> rcases (hm _ _).mp r with r | ⟨e1, e2⟩
    · exact D.tn.anti _ _ h r
    · exact no u v (.inr ⟨e2, e1⟩) h
    · exact no _ _ (.inr ⟨rfl, rfl⟩) r
    · exact ne e2
  · rcases (hm u v).mp h with h | ⟨rfl, rfl⟩
    · obtain ⟨p, hp, h⟩ := D.told u v h
      exact ⟨p, List.mem_append_left _ hp, h⟩
    · exact ⟨(i, j), by simp, hxy⟩
  · rcases List.mem_append.mp hp with hp | hp
    · exact (D.all p hp u v hu hv).imp (fun q => (hm _ _).mpr (.inl q)) fun q => (hm _ _).mpr (.inl q)
    · rw [List.mem_singleton] at hp
      subst hp
      rcases hxy with ⟨a1, a2⟩ | ⟨a1, a2⟩
      · rw [a1] at hu; rw [a2] at hv
        cases hu; cases hv
        exact .inl ((hm _ _).mpr (.inr ⟨rfl, rfl⟩))
      · rw [a1] at hu; rw [a2] at hv
        cases hu; cases hv
        exact .inr ((hm _ _).mpr (.inr ⟨rfl, rfl⟩))
theorem dr_tot {n : Nat} {ord : List Nat} {R : Lg} (D : Dr n ord (pairs n) R) (ho : ord.Perm (List.range n)) : Tot n R := by
  have hl : ord.length = n := by rw [ho.length_eq, List.length_range]
  have find : ∀ x, x < n → ∃ i, i < n ∧ ord[i]? = some x := fun x hx => by
    obtain ⟨i, hi, e⟩ := List.mem_iff_getElem.mp (ho.symm.subset (List.mem_range.mpr hx))
    exact ⟨i, by omega, by rw [List.getElem?_eq_getElem hi, e]⟩
  intro x y hx hy ne
  obtain ⟨i, hi, ei⟩ := find x hx
  obtain ⟨j, hj, ej⟩ := find y hy
  have : i ≠ j := fun e => by subst e; rw [ei] at ej; cases ej; exact ne rfl
  by_cases q : i < j
  · exact D.all (i, j) (mem_pairs.mpr ⟨q, hj⟩) x y ei ej
  · exact (D.all (j, i) (mem_pairs.mpr ⟨by omega, hi⟩) y x ej ei).symm
/-! sums over sides -/
def su (n : Nat) (f : Nat → Int) : Int := ((List.range n).map f).sum
theorem su_succ (n : Nat) (f : Nat → Int) : su (n + 1) f = su n f + f n := by simp [su, List.range_succ]
theorem su_congr {n : Nat} {f g : Nat → Int} (h : ∀ x, x < n → f x = g x) : su n f = su n g := by
  induction n with
  | zero => rfl
  | succ n ih => rw [su_succ, su_succ, ih fun x hx => h x (by omega), h n (by omega)]
theorem su_one {n h : Nat} {f g : Nat → Int} (hh : h < n) (e : ∀ x, x < n → x ≠ h → f x = g x) : su n f = su n g + (f h - g h) := by
  induction n with
  | zero => omega
  | succ n ih =>
    rw [su_succ, su_succ]
    by_cases q : h = n
    · subst q
      rw [su_congr fun x hx => e x (by omega) (by omega)]
      omega
    · rw [ih (by omega) fun x hx => e x (by omega), e n (by omega) (by omega)]
      omega
theorem su_two {n h l : Nat} {f g : Nat → Int} (hh : h < n) (hl : l < n) (ne : h ≠ l) (e : ∀ x, x < n → x ≠ h → x ≠ l → f x = g x) : su n f = su n g + (f h - g h) + (f l - g l) := by
  have h1 := su_one (f := f) (g := fun x => if x = l then f x else g x) hh fun x hx q => by
    by_cases z : x = l
    · simp [z]
    · simp [z, e x hx q z]
  have h2 := su_one (f := fun x => if x = l then f x else g x) (g := g) hl fun x hx q => by simp [q]
  simp only [if_neg ne] at h1
  simp only [if_pos] at h2
  omega
/-! the sign -/
def ch2 (w : Nat) : Int := ((w : Int) * ((w : Int) - 1)) / 2
theorem ch2_succ (w : Nat) : ch2 (w + 1) = ch2 w + w := by
  unfold ch2
  have h : ((w + 1 : Nat) : Int) * (((w + 1 : Nat) : Int) - 1) = (w : Int) * ((w : Int) - 1) + 2 * w := by
    rw [show (((w + 1 : Nat) : Int) - 1) = w by omega, show ((w + 1 : Nat) : Int) = w + 1 by omega, Int.add_mul, Int.mul_sub]
    omega
  rw [h]
  omega
def lower (x : Nat) (r : List Nat) : Nat := (r.filter fun y => decide (y < x)).length
def cntM (L : Lg) : Int := ((L.length : Int) * ((L.length : Int) - 1) * ((L.length : Int) - 2)) / 6 - su L.length fun x => ch2 (gd L x).length
def upM (L : Lg) : Int := su L.length fun x => (lower x (gd L x) : Int)
def signM (L : Lg) : Int := (cntM L + upM L) % 2
theorem lower_perm {x : Nat} {r s : List Nat} (h : r.Perm s) : lower x r = lower x s := (h.filter _).length_eq
theorem lower_app (x y : Nat) (r : List Nat) : lower x (r ++ [y]) = lower x r + if y < x then 1 else 0 := by
  simp only [lower, List.filter_append, List.length_append]
  congr 1
  by_cases h : y < x <;> simp [h]
/-- what a turned match does to a row -/
theorem gd_move {R : Lg} {a b : Nat} (ha : a < R.length) (hb : b < R.length) (ne : a ≠ b) (x : Nat) : gd ((R.set a ((gd R a).erase b)).set b (gd (R.set a ((gd R a).erase b)) b ++ [a])) x = if x = b then gd R b ++ [a] else if x = a then (gd R a).erase b else gd R x := by
  have ne' : ¬ b = a := fun e => ne e.symm
  have e1 : gd (R.set a ((gd R a).erase b)) b = gd R b := by rw [gd_set, if_neg (by simp [ne'])]
  rw [e1, gd_set, gd_set, List.length_set]
  simp [ha, hb]
theorem move_sign {n : Nat} {R : Lg} (T : Tn n R) {a b : Nat} (h : b ∈ gd R a) : signM ((R.set a ((gd R a).erase b)).set b (gd (R.set a ((gd R a).erase b)) b ++ [a])) = (signM R + (gd R a).length + (gd R b).length) % 2 := by
  have ha : a < R.length := gd_lt h
  have hb : b < R.length := T.len ▸ T.lt _ _ h
  have ne : a ≠ b := fun e => by subst e; exact T.anti _ _ h h
  have hg := fun x => gd_move ha hb ne x
  generalize hR' : (R.set a ((gd R a).erase b)).set b (gd (R.set a ((gd R a).erase b)) b ++ [a]) = R' at hg
  have hl : R'.length = R.length := by rw [← hR']; simp
  have ga : gd R' a = (gd R a).erase b := by rw [hg, if_neg ne, if_pos rfl]
  have gb : gd R' b = gd R b ++ [a] := by rw [hg, if_pos rfl]
  have go : ∀ x, x ≠ a → x ≠ b → gd R' x = gd R x := fun x h1 h2 => by rw [hg, if_neg h2, if_neg h1]
  obtain ⟨wa, hwa⟩ : ∃ w, (gd R a).length = w + 1 := ⟨(gd R a).length - 1, by have := List.length_pos_of_mem h; omega⟩
  have la : (gd R' a).length = wa := by rw [ga, List.length_erase_of_mem h]; omega
  have lb : (gd R' b).length = (gd R b).length + 1 := by rw [gb]; simp
  have c : cntM R' = cntM R + wa - (gd R b).length := by
    unfold cntM
    rw [hl, su_two (f := fun x => ch2 (gd R' x).length) (g := fun x => ch2 (gd R x).length) ha hb ne fun x _ h1 h2 => by rw [go x h1 h2]]
    rw [la, lb, hwa, ch2_succ, ch2_succ]
    omega
  have ua : (lower a (gd R a) : Int) = lower a (gd R' a) + if b < a then 1 else 0 := by
    rw [lower_perm (List.perm_cons_erase h), ga]
    simp only [lower, List.filter_cons]
    by_cases q : b < a <;> simp [q]
  have ub : (lower b (gd R' b) : Int) = lower b (gd R b) + if a < b then 1 else 0 := by
    rw [gb, lower_app]
    by_cases q : a < b <;> simp [q]
  have u : upM R' = upM R - (if b < a then 1 else 0) + if a < b then 1 else 0 := by
    unfold upM
    rw [hl, su_two (f := fun x => (lower x (gd R' x) : Int)) (g := fun x => (lower x (gd R x) : Int)) ha hb ne fun x _ h1 h2 => by rw [go x h1 h2]]
    rw [ua, ub]
    omega
  unfold signM
  rw [c, u, hwa]
  by_cases q : a < b
  · rw [if_neg (by omega), if_pos q]; omega
  · rw [if_pos (by omega), if_neg q]; omega
theorem turn_sign {n : Nat} {R : Lg} (T : Tn n R) {a b : Nat} (h : b ∈ gd R a ∨ a ∈ gd R b) : signM (turnM R a b) = (signM R + (gd R a).length + (gd R b).length) % 2 := by
  unfold turnM
  split
  case isTrue hb => exact move_sign T hb
  case isFalse hb =>
    rw [move_sign T (h.resolve_left hb)]
    omega
theorem turn_len (R : Lg) (a b : Nat) : (turnM R a b).length = R.length := by
  unfold turnM
  split <;> simp
theorem map_sign {R : Lg} {f : List Nat → List Nat} (hf : ∀ r, (f r).Perm r) : signM (R.map f) = signM R := by
  have h0 : f [] = [] := (hf []).eq_nil
  have hg : ∀ x, gd (R.map f) x = f (gd R x) := fun x => by
    simp only [gd, List.getD_eq_getElem?_getD, List.getElem?_map]
    cases R[x]? with
    | none => simp [h0]
    | some r => simp
  unfold signM cntM upM
  rw [List.length_map, su_congr fun x _ => by rw [hg, (hf _).length_eq], su_congr (f := fun x => (lower x (gd (R.map f) x) : Int)) fun x _ => by rw [hg, lower_perm (hf _)]]
theorem turn_tot {n : Nat} {R : Lg} (T : Tn n R) (Q : Tot n R) {a b : Nat} (h : b ∈ gd R a ∨ a ∈ gd R b) : Tot n (turnM R a b) := by
  have hab : a ∈ gd (turnM R a b) b ∨ b ∈ gd (turnM R a b) a := by
    unfold turnM
    split
    case isTrue hb => exact .inl (((move_tn T hb).2 b a).mpr (.inr ⟨rfl, rfl⟩))
    case isFalse hb => exact .inr (((move_tn T (h.resolve_left hb)).2 a b).mpr (.inr ⟨rfl, rfl⟩))
  intro x y hx hy ne
  by_cases q : (x = a ∧ y = b) ∨ (x = b ∧ y = a)
  · rcases q with ⟨rfl, rfl⟩ | ⟨rfl, rfl⟩
    · exact hab.symm
    · exact hab
  · have m := (turn_tn T h).2
    exact (Q x y hx hy ne).imp (fun z => (m x y q).mpr z) fun z => (m y x (by omega)).mpr z
theorem sign_01 (R : Lg) : signM R = 0 ∨ signM R = 1 := by unfold signM; omega
end JM
namespace JM
/-! how many rings there are -/
theorem su_add {n : Nat} (f g : Nat → Int) : su n (fun x => f x + g x) = su n f + su n g := by
  induction n with
  | zero => rfl
  | succ n ih => rw [su_succ, su_succ, su_succ, ih]; omega
theorem su_zero (n : Nat) : su n (fun _ => 0) = 0 := by
  induction n with
  | zero => rfl
  | succ n ih => rw [su_succ, ih]; rfl
theorem su_mulr {n : Nat} (f : Nat → Int) (k : Int) : su n (fun x => f x * k) = su n f * k := by
  induction n with
  | zero => simp [su]
  | succ n ih => rw [su_succ, su_succ, ih, Int.add_mul]
def su2 (n : Nat) (f : Nat → Nat → Int) : Int := su n fun c => su c fun b => f b c
def su3 (n : Nat) (f : Nat → Nat → Nat → Int) : Int := su n fun c => su c fun b => su b fun a => f a b c
theorem su2_succ (n : Nat) (f : Nat → Nat → Int) : su2 (n + 1) f = su2 n f + su n fun b => f b n := by rw [su2, su_succ]; rfl
theorem su3_succ (n : Nat) (f : Nat → Nat → Nat → Int) : su3 (n + 1) f = su3 n f + su2 n fun a b => f a b n := by rw [su3, su_succ]; rfl
theorem up_succ {a n : Nat} (h : a < n) : up a (n + 1) = up a n ++ [n] := by
  unfold up
  rw [show n + 1 - (a + 1) = (n - (a + 1)) + 1 by omega, List.range'_concat]
  congr 2
  omega
theorem up_self (n : Nat) : up n (n + 1) = [] := by simp [up]
theorem up_sum (n : Nat) (f : Nat → Nat → Int) : su n (fun a => ((up a n).map (f a)).sum) = su2 n f := by
  induction n with
  | zero => rfl
  | succ n ih =>
    rw [su_succ, up_self, su2_succ, ← ih, ← su_add]
    simp only [List.map_nil, List.sum_nil, Int.add_zero]
    refine su_congr fun a ha => ?_
    rw [up_succ ha, List.map_append, List.sum_append]
    simp
theorem up_sum3 (n : Nat) (r : Nat → Nat → Nat → Int) : su2 n (fun a b => ((up b n).map (r a b)).sum) = su3 n r := by
  induction n with
  | zero => rfl
  | succ n ih =>
    have e : su2 (n + 1) (fun a b => ((up b (n + 1)).map (r a b)).sum) = su2 n (fun a b => ((up b n).map (r a b)).sum + r a b n) := by
      rw [su2_succ, up_self]
      simp only [List.map_nil, List.sum_nil]
      rw [su_zero, Int.add_zero]
      refine su_congr fun b hb => su_congr fun a ha => ?_
      show (List.map (r a b) (up b (n + 1))).sum = (List.map (r a b) (up b n)).sum + r a b n
      rw [up_succ hb, List.map_append, List.sum_append]
      simp
    rw [e, su3_succ, ← ih]
    simp only [su2, ← su_add]
theorem len_flat {α β : Type} (f : α → List β) (as : List α) : (((as.flatMap f).length : Nat) : Int) = (as.map fun a => ((f a).length : Int)).sum := by
  induction as with
  | nil => rfl
  | cons a as ih => rw [List.flatMap_cons, List.length_append, List.map_cons, List.sum_cons, ← ih]; omega
theorem law_len (L : Lg) : ((lawM L).length : Int) = su3 L.length fun a b c => ((ringAt L a b c).length : Int) := by
  rw [← up_sum3, ← up_sum]
  unfold lawM
  rw [len_flat]
  refine su_congr fun a _ => ?_
  rw [len_flat]
  congr 1
  refine List.map_congr_left fun b _ => ?_
  rw [len_flat]
theorem split2 (n : Nat) (h : Nat → Nat → Int) (h0 : ∀ x, h x x = 0) : su n (fun x => su n fun b => h x b) = su2 n fun a b => h a b + h b a := by
  induction n with
  | zero => rfl
  | succ n ih =>
    rw [su_succ, su2_succ, ← ih]
    have e : su n (fun x => su (n + 1) fun b => h x b) = su n (fun x => su n fun b => h x b) + su n fun x => h x n := by
      rw [← su_add]
      exact su_congr fun x _ => su_succ _ _
    rw [e, su_succ, h0, su_add]
    have : (su n fun b => h n b) = su n (h n) := rfl
    omega
theorem split3 (n : Nat) (g : Nat → Nat → Nat → Int) (h1 : ∀ x y, g x x y = 0) (h2 : ∀ x y, g x y x = 0) : su n (fun x => su2 n (g x)) = su3 n fun a b c => g a b c + g b a c + g c a b := by
  induction n with
  | zero => rfl
  | succ n ih =>
    rw [su_succ, su3_succ, ← ih]
    have e : su n (fun x => su2 (n + 1) (g x)) = su n (fun x => su2 n (g x)) + su2 n fun a b => g a b n + g b a n := by
      rw [← split2 n (fun x b => g x b n) fun x => h1 x n, ← su_add]
      exact su_congr fun x _ => su2_succ _ _
    rw [e, su2_succ, su_congr (f := fun b => g n b n) (g := fun _ => 0) fun b _ => h2 n b, su_zero]
    have e2 : su2 n (fun a b => g a b n + g b a n + g n a b) = su2 n (fun a b => g a b n + g b a n) + su2 n (g n) := by
      simp only [su2, ← su_add]
    rw [e2]
    omega
theorem filt_len (p : Nat → Bool) (n : Nat) : (((List.range n).filter p).length : Int) = su n fun y => if p y then 1 else 0 := by
  induction n with
  | zero => rfl
  | succ n ih =>
    rw [List.range_succ, List.filter_append, List.length_append, su_succ, ← ih]
    cases h : p n <;> simp [h]
def ed (L : Lg) (x y : Nat) : Int := if y ∈ gd L x then 1 else 0
theorem ed_len {n : Nat} {L : Lg} (W : Wf n L) (x : Nat) : ((gd L x).length : Int) = su n (ed L x) := by
  have p : (gd L x).Perm ((List.range n).filter fun y => decide (y ∈ gd L x)) := (List.perm_ext_iff_of_nodup ((W.tn).nd x) (List.nodup_range.filter _)).2 fun y => by
    simp only [List.mem_filter, List.mem_range, decide_eq_true_eq]
    exact ⟨fun h => ⟨W.lt _ _ h, h⟩, fun h => h.2⟩
  rw [p.length_eq, filt_len]
  refine su_congr fun y _ => ?_
  unfold ed
  by_cases h : y ∈ gd L x <;> simp [h]
theorem ch2_even (w : Nat) : (w : Int) * ((w : Int) - 1) = 2 * ch2 w := by
  induction w with
  | zero => rfl
  | succ w ih =>
    rw [ch2_succ, Int.mul_add, ← ih]
    rw [show (((w + 1 : Nat) : Int) - 1) = w by omega, show ((w + 1 : Nat) : Int) = w + 1 by omega, Int.add_mul, Int.mul_sub]
    omega
def t3 : Nat → Int
  | 0 => 0
  | n + 1 => t3 n + ch2 n
theorem t3_eq (n : Nat) : ((n : Int) * ((n : Int) - 1) * ((n : Int) - 2)) / 6 = t3 n := by
  have h : (n : Int) * ((n : Int) - 1) * ((n : Int) - 2) = 6 * t3 n := by
    induction n with
    | zero => rfl
    | succ n ih =>
      rw [t3, Int.mul_add, ← ih]
      have e := ch2_even n
      rw [show (((n + 1 : Nat) : Int) - 1) = n by omega, show (((n + 1 : Nat) : Int) - 2) = (n : Int) - 1 by omega, show ((n + 1 : Nat) : Int) = n + 1 by omega]
      rw [show 6 * ch2 n = 3 * (2 * ch2 n) by omega, ← e]
      generalize hp : (n : Int) * ((n : Int) - 1) = p at *
      have e1 : ((n : Int) + 1) * n * ((n : Int) - 1) = (n + 1) * p := by rw [Int.mul_assoc, hp]
      rw [e1, Int.add_mul, Int.mul_sub, Int.mul_comm (n : Int) p]
      omega
  rw [h]; omega
theorem su3_one (n : Nat) : su3 n (fun _ _ _ => 1) = t3 n := by
  have h2 : ∀ n, su2 n (fun _ _ => 1) = ch2 n := fun n => by
    have h1 : ∀ n, su n (fun _ => 1) = n := fun n => by
      induction n with
      | zero => rfl
      | succ n ih => rw [su_succ, ih]; omega
    induction n with
    | zero => rfl
    | succ n ih => rw [su2_succ, ih, ch2_succ, h1]
  induction n with
  | zero => rfl
  | succ n ih => rw [su3_succ, ih, h2]; rfl
theorem pairs_sum {e : Nat → Int} (h01 : ∀ x, e x = 0 ∨ e x = 1) (n : Nat) : ∃ w : Nat, su n e = w ∧ ch2 w = su2 n fun y z => e y * e z := by
  induction n with
  | zero => exact ⟨0, rfl, rfl⟩
  | succ n ih =>
    obtain ⟨w, h1, h2⟩ := ih
    rw [su2_succ, ← h2, su_mulr, h1, su_succ, h1]
    rcases h01 n with h | h
    · exact ⟨w, by rw [h]; omega, by rw [h]; omega⟩
    · exact ⟨w + 1, by rw [h]; omega, by rw [h, ch2_succ]; omega⟩
theorem count_eq {n : Nat} {L : Lg} (W : Wf n L) (Q : Tot n L) : ((lawM L).length : Int) = cntM L := by
  have hl := W.len
  rw [law_len, cntM, t3_eq, ← su3_one, hl]
  have e1 : su n (fun x => ch2 (gd L x).length) = su3 n fun a b c => ed L a b * ed L a c + ed L b a * ed L b c + ed L c a * ed L c b := by
    have nz : ∀ x, ed L x x = 0 := fun x => by
      unfold ed
      exact if_neg fun h => W.anti _ _ h h
    rw [← split3 n (fun x y z => ed L x y * ed L x z) (fun x y => by rw [nz]; omega) fun x y => by rw [nz]; omega]
    refine su_congr fun x _ => ?_
    obtain ⟨w, h1, h2⟩ := pairs_sum (e := ed L x) (fun y => by unfold ed; split <;> simp) n
    rw [← h2]
    have := ed_len W x
    congr 1
    omega
  rw [e1]
  have e2 : ∀ f g : Nat → Nat → Nat → Int, su3 n (fun a b c => f a b c + g a b c) = su3 n f + su3 n g := fun f g => by
    simp only [su3, ← su_add]
  have e3 : su3 n (fun a b c => ((ringAt L a b c).length : Int) + (ed L a b * ed L a c + ed L b a * ed L b c + ed L c a * ed L c b)) = su3 n fun _ _ _ => 1 := by
    refine su_congr fun c hc => su_congr fun b hb => su_congr fun a ha => ?_
    have q1 := Q a b (by omega) (by omega) (by omega)
    have q2 := Q b c (by omega) (by omega) (by omega)
    have q3 := Q a c (by omega) (by omega) (by omega)
    have a1 := W.anti a b
    have a2 := W.anti b c
    have a3 := W.anti a c
    have b1 := W.anti b a
    have b2 := W.anti c b
    have b3 := W.anti c a
    unfold ringAt ed
    by_cases h1 : b ∈ gd L a <;> by_cases h2 : c ∈ gd L b <;> by_cases h3 : c ∈ gd L a <;> simp_all
  rw [e2] at e3
  omega
end JM
namespace JM
/-! rings through a side -/
def inT (s : Nat) (p : Tri) : Bool := decide (s = p.1) || (decide (s = p.2.1) || decide (s = p.2.2))
/-- the ways round from s -/
def ways (L : Lg) (s : Nat) : List (Nat × Nat) := (gd L s).flatMap fun b => ((gd L b).filter fun c => decide (s ∈ gd L c)).map fun c => (b, c)
theorem mem_ways {L : Lg} {s : Nat} {p : Nat × Nat} : p ∈ ways L s ↔ p.1 ∈ gd L s ∧ p.2 ∈ gd L p.1 ∧ s ∈ gd L p.2 := by
  obtain ⟨b, c⟩ := p
  simp only [ways, List.mem_flatMap, List.mem_map, List.mem_filter, decide_eq_true_eq, Prod.mk.injEq]
  constructor
  · rintro ⟨b', h1, c', ⟨h2, h3⟩, rfl, rfl⟩
    exact ⟨h1, h2, h3⟩
  · rintro ⟨h1, h2, h3⟩
    exact ⟨b, h1, c, ⟨h2, h3⟩, rfl, rfl⟩
theorem ways_nodup {n : Nat} {L : Lg} (T : Tn n L) (s : Nat) : (ways L s).Nodup := by
  unfold ways
  rw [List.Nodup, List.pairwise_flatMap]
  refine ⟨fun b _ => ?_, (T.nd s).imp fun {b b'} h p hp q hq e => ?_⟩
  · rw [List.pairwise_map]
    exact ((T.nd b).filter _).imp fun {c c'} h e => h (Prod.mk.inj e).2
  · obtain ⟨c, _, rfl⟩ := List.mem_map.mp hp
    obtain ⟨c', _, rfl⟩ := List.mem_map.mp hq
    exact h (Prod.mk.inj e).1
/-- the ring, told from its least side -/
def canon (s : Nat) (p : Nat × Nat) : Tri := if s < p.1 ∧ s < p.2 then (s, p.1, p.2) else if p.2 < p.1 then (p.2, s, p.1) else (p.1, p.2, s)
theorem ways_ring {n : Nat} {L : Lg} (W : Wf n L) (s : Nat) : ((ways L s).map (canon s)).Perm ((ringsM L).filter (inT s)) := by
  refine (List.perm_ext_iff_of_nodup ?_ ((rings_nodup W).filter _)).2 fun q => ?_
  · rw [List.Nodup, List.pairwise_map]
    refine (ways_nodup W.tn s).imp_of_mem fun {p p'} hp hp' ne e => ne ?_
    have hp := mem_ways.mp hp
    have hp' := mem_ways.mp hp'
    have a1 := W.ne hp.1
    have a2 := W.ne hp.2.1
    have a3 := W.ne hp.2.2
    have b1 := W.ne hp'.1
    have b2 := W.ne hp'.2.1
    have b3 := W.ne hp'.2.2
    obtain ⟨b, c⟩ := p
    obtain ⟨b', c'⟩ := p'
    simp only [canon] at e a1 a2 a3 b1 b2 b3
    split at e <;> split at e <;> (try split at e) <;> (try split at e) <;> simp only [Prod.mk.injEq] at e ⊢ <;> omega
  · obtain ⟨x, y, z⟩ := q
    simp only [List.mem_map, List.mem_filter, mem_ringsM, inT, Bool.or_eq_true, decide_eq_true_eq]
    constructor
    · rintro ⟨⟨b, c⟩, hp, e⟩
      obtain ⟨h1, h2, h3⟩ := mem_ways.mp hp
      have a1 := W.ne h1
      have a2 := W.ne h2
      have a3 := W.ne h3
      simp only at h1 h2 h3 a1 a2 a3
      simp only [canon] at e
      split at e
      · obtain ⟨rfl, rfl, rfl⟩ : s = x ∧ b = y ∧ c = z := by simpa using e
        exact ⟨⟨h1, h2, h3, by omega, by omega⟩, .inl rfl⟩
      · split at e
        · obtain ⟨rfl, rfl, rfl⟩ : c = x ∧ s = y ∧ b = z := by simpa using e
          exact ⟨⟨h3, h1, h2, by omega, by omega⟩, .inr (.inl rfl)⟩
        · obtain ⟨rfl, rfl, rfl⟩ : b = x ∧ c = y ∧ s = z := by simpa using e
          exact ⟨⟨h2, h3, h1, by omega, by omega⟩, .inr (.inr rfl)⟩
    · rintro ⟨⟨h1, h2, h3, h4, h5⟩, rfl | rfl | rfl⟩
      · exact ⟨(y, z), mem_ways.mpr ⟨h1, h2, h3⟩, by simp only [canon]; rw [if_pos ⟨h4, h5⟩]⟩
      · have := W.ne h2
        exact ⟨(z, x), mem_ways.mpr ⟨h2, h3, h1⟩, by simp only [canon]; rw [if_neg (by omega), if_pos (by omega)]⟩
      · have := W.ne h2
        exact ⟨(x, y), mem_ways.mpr ⟨h3, h1, h2⟩, by simp only [canon]; rw [if_neg (by omega), if_neg (by omega)]⟩
theorem ways_len {n : Nat} {L : Lg} (W : Wf n L) (s : Nat) : (ways L s).length = ((ringsM L).filter (inT s)).length := by
  have := (ways_ring W s).length_eq
  rwa [List.length_map] at this
/-- each ring is counted thrice -/
theorem thrice {n : Nat} : ∀ {ps : List Tri}, (∀ p ∈ ps, p.1 < n ∧ p.2.1 < n ∧ p.2.2 < n ∧ p.1 ≠ p.2.1 ∧ p.1 ≠ p.2.2 ∧ p.2.1 ≠ p.2.2) → su n (fun s => ((ps.filter (inT s)).length : Int)) = 3 * ps.length
  | [], _ => by simp [su_zero]
  | p :: ps, h => by
    have ih := thrice (ps := ps) fun q hq => h q (List.mem_cons_of_mem _ hq)
    obtain ⟨h1, h2, h3, h4, h5, h6⟩ := h p List.mem_cons_self
    have e : su n (fun s => (((p :: ps).filter (inT s)).length : Int)) = su n (fun s => (if inT s p then 1 else 0) + ((ps.filter (inT s)).length : Int)) := su_congr fun s _ => by
      rw [List.filter_cons]
      split <;> simp <;> omega
    rw [e, su_add, ih]
    have e2 : su n (fun s => if inT s p then (1 : Int) else 0) = 3 := by
      obtain ⟨a, b, c⟩ := p
      simp only at h1 h2 h3 h4 h5 h6
      have q1 : su n (fun s => if inT s (a, b, c) then (1 : Int) else 0) = su n (fun s => if s = b ∨ s = c then 1 else 0) + 1 := by
        rw [su_one (f := fun s => if inT s (a, b, c) then (1 : Int) else 0) (g := fun s => if s = b ∨ s = c then 1 else 0) h1 fun x _ hx => by simp [inT, hx]]
        simp [inT, h4, h5]
      have q2 : su n (fun s => if s = b ∨ s = c then (1 : Int) else 0) = su n (fun s => if s = c then 1 else 0) + 1 := by
        rw [su_one (f := fun s => if s = b ∨ s = c then (1 : Int) else 0) (g := fun s => if s = c then 1 else 0) h2 fun x _ hx => by simp [hx]]
        simp [h6]
      have q3 : su n (fun s => if s = c then (1 : Int) else 0) = 1 := by
        rw [su_one (f := fun s => if s = c then (1 : Int) else 0) (g := fun _ => 0) h3 fun x _ hx => by simp [hx], su_zero]
        simp
      rw [q1, q2, q3]; rfl
    rw [e2, List.length_cons]
    omega
theorem sum_parts {n : Nat} {L : Lg} (W : Wf n L) : su n (fun s => ((ways L s).length : Int)) = 3 * (ringsM L).length := by
  rw [su_congr fun s _ => by rw [ways_len W s]]
  refine thrice fun p hp => ?_
  obtain ⟨h1, h2, h3, _, _⟩ := mem_ringsM.mp hp
  exact ⟨W.lt _ _ h3, W.lt _ _ h1, W.lt _ _ h2, W.ne h1, fun e => W.ne h3 e.symm, W.ne h2⟩
/-! renamed -/
theorem perm_sum {α : Type} {f : α → Int} {xs ys : List α} (h : xs.Perm ys) : (xs.map f).sum = (ys.map f).sum := by
  induction h with
  | nil => rfl
  | cons x _ ih => simp only [List.map_cons, List.sum_cons, ih]
  | swap x y l => simp only [List.map_cons, List.sum_cons]; omega
  | trans _ _ h1 h2 => exact h1.trans h2
def og (ord : List Nat) (x : Nat) : Nat := ord.getD x 0
theorem og_map {ord : List Nat} {n : Nat} (hl : ord.length = n) (f : Nat → Int) : ((List.range n).map fun x => f (og ord x)) = ord.map f := by
  refine List.ext_getElem (by simp [hl]) fun i h1 h2 => ?_
  simp at h1
  simp [og, List.getD_eq_getElem?_getD, List.getElem?_eq_getElem (hl ▸ h1)]
theorem su_perm {ord : List Nat} {n : Nat} (h : ord.Perm (List.range n)) (f : Nat → Int) : su n (fun x => f (og ord x)) = su n f := by
  have hl : ord.length = n := by rw [h.length_eq, List.length_range]
  unfold su
  rw [og_map hl, perm_sum h]
def relM (L : Lg) (ord : List Nat) : Lg := ord.map fun s => (gd L s).map fun o => ord.idxOf o
theorem idx_og {ord : List Nat} (hn : ord.Nodup) {x : Nat} (hx : x < ord.length) : ord.idxOf (og ord x) = x := by
  have e : og ord x = ord[x] := by simp [og, List.getD_eq_getElem?_getD, List.getElem?_eq_getElem hx]
  rw [e, hn.idxOf_getElem]
theorem og_idx {ord : List Nat} {o : Nat} (h : o ∈ ord) : og ord (ord.idxOf o) = o := by
  have hl : ord.idxOf o < ord.length := List.idxOf_lt_length_iff.mpr h
  simp [og, List.getD_eq_getElem?_getD, List.getElem?_eq_getElem hl]
theorem gd_rel {L : Lg} {ord : List Nat} {x : Nat} (hx : x < ord.length) : gd (relM L ord) x = (gd L (og ord x)).map fun o => ord.idxOf o := by
  simp [relM, gd, og, List.getD_eq_getElem?_getD, List.getElem?_map, List.getElem?_eq_getElem hx]
theorem mem_rel {n : Nat} {L : Lg} {ord : List Nat} (W : Wf n L) (ho : ord.Perm (List.range n)) {x y : Nat} : y ∈ gd (relM L ord) x ↔ x < n ∧ y < n ∧ og ord y ∈ gd L (og ord x) := by
  have hl : ord.length = n := by rw [ho.length_eq, List.length_range]
  have hn : ord.Nodup := ho.symm.nodup List.nodup_range
  have hm : ∀ o, o < n → o ∈ ord := fun o h => ho.symm.subset (List.mem_range.mpr h)
  constructor
  · intro h
    have hx : x < ord.length := by
      have := gd_lt h
      rwa [relM, List.length_map] at this
    rw [gd_rel hx] at h
    obtain ⟨o, h1, rfl⟩ := List.mem_map.mp h
    have h2 := hm o (W.lt _ _ h1)
    refine ⟨by omega, ?_, ?_⟩
    · have := List.idxOf_lt_length_iff.mpr h2
      omega
    · rw [og_idx h2]; exact h1
  · rintro ⟨hx, hy, h⟩
    rw [gd_rel (by omega)]
    exact List.mem_map.mpr ⟨og ord y, h, idx_og hn (by omega)⟩
theorem og_lt {n : Nat} {ord : List Nat} (ho : ord.Perm (List.range n)) {x : Nat} (hx : x < n) : og ord x < n := by
  have hl : ord.length = n := by rw [ho.length_eq, List.length_range]
  have e : og ord x = ord[x] := by simp [og, List.getD_eq_getElem?_getD, List.getElem?_eq_getElem (show x < ord.length by omega)]
  exact List.mem_range.mp (ho.subset (e ▸ List.getElem_mem _))
theorem og_inj {n : Nat} {ord : List Nat} (ho : ord.Perm (List.range n)) {x y : Nat} (hx : x < n) (hy : y < n) (e : og ord x = og ord y) : x = y := by
  have hl : ord.length = n := by rw [ho.length_eq, List.length_range]
  have hn : ord.Nodup := ho.symm.nodup List.nodup_range
  rw [← idx_og hn (x := x) (by omega), e, idx_og hn (by omega)]
theorem rel_tn {n : Nat} {L : Lg} {ord : List Nat} (W : Wf n L) (ho : ord.Perm (List.range n)) : Tn n (relM L ord) := by
  have hl : ord.length = n := by rw [ho.length_eq, List.length_range]
  have hm : ∀ o, o < n → o ∈ ord := fun o h => ho.symm.subset (List.mem_range.mpr h)
  refine ⟨by rw [relM, List.length_map, hl], fun x => ?_, fun x y h => ((mem_rel W ho).mp h).2.1, fun x y h r => W.anti _ _ ((mem_rel W ho).mp h).2.2 ((mem_rel W ho).mp r).2.2⟩
  by_cases hx : x < ord.length
  · rw [gd_rel hx, List.Nodup, List.pairwise_map]
    refine (W.tn.nd _).imp_of_mem fun {a b} ha hb ne e => ne ?_
    rw [← og_idx (hm a (W.lt _ _ ha)), e, og_idx (hm b (W.lt _ _ hb))]
  · rw [gd, List.getD_eq_getElem?_getD, List.getElem?_eq_none (by rw [relM, List.length_map]; omega)]
    exact List.nodup_nil
theorem rel_tot {n : Nat} {L : Lg} {ord : List Nat} (W : Wf n L) (Q : Tot n L) (ho : ord.Perm (List.range n)) : Tot n (relM L ord) := fun x y hx hy ne =>
  (Q _ _ (og_lt ho hx) (og_lt ho hy) fun e => ne (og_inj ho hx hy e)).imp (fun h => (mem_rel W ho).mpr ⟨hx, hy, h⟩) fun h => (mem_rel W ho).mpr ⟨hy, hx, h⟩
/-- the ways round in a league that is the renamed one, row by row in any order -/
theorem ways_rel {n : Nat} {L M : Lg} {ord : List Nat} (W : Wf n L) (V : Tn n M) (ho : ord.Perm (List.range n)) (hM : ∀ x y, y ∈ gd M x ↔ x < n ∧ y < n ∧ og ord y ∈ gd L (og ord x)) {s : Nat} (hs : s < n) : (ways M s).length = (ways L (og ord s)).length := by
  have hl : ord.length = n := by rw [ho.length_eq, List.length_range]
  have hm : ∀ o, o < n → o ∈ ord := fun o h => ho.symm.subset (List.mem_range.mpr h)
  have p : ((ways M s).map fun q => (og ord q.1, og ord q.2)).Perm (ways L (og ord s)) := by
    refine (List.perm_ext_iff_of_nodup ?_ (ways_nodup W.tn _)).2 fun q => ?_
    · rw [List.Nodup, List.pairwise_map]
      refine (ways_nodup V s).imp_of_mem fun {a b} ha hb ne e => ne ?_
      obtain ⟨h1, h2, h3⟩ := mem_ways.mp ha
      obtain ⟨g1, g2, g3⟩ := mem_ways.mp hb
      obtain ⟨e1, e2⟩ := Prod.mk.inj e
      exact Prod.ext (og_inj ho (V.lt _ _ h1) (V.lt _ _ g1) e1) (og_inj ho (V.lt _ _ h2) (V.lt _ _ g2) e2)
    · constructor
      · intro h
        obtain ⟨a, ha, rfl⟩ := List.mem_map.mp h
        obtain ⟨h1, h2, h3⟩ := mem_ways.mp ha
        exact mem_ways.mpr ⟨((hM _ _).mp h1).2.2, ((hM _ _).mp h2).2.2, ((hM _ _).mp h3).2.2⟩
      · intro h
        obtain ⟨h1, h2, h3⟩ := mem_ways.mp h
        obtain ⟨b, c⟩ := q
        have hb := hm b (W.lt _ _ h1)
        have hc := hm c (W.lt _ _ h2)
        have lb := List.idxOf_lt_length_iff.mpr hb
        have lc := List.idxOf_lt_length_iff.mpr hc
        refine List.mem_map.mpr ⟨(ord.idxOf b, ord.idxOf c), mem_ways.mpr ⟨(hM _ _).mpr ⟨hs, by omega, ?_⟩, (hM _ _).mpr ⟨by omega, by omega, ?_⟩, (hM _ _).mpr ⟨by omega, hs, ?_⟩⟩, ?_⟩
        · rw [og_idx hb]; exact h1
        · rw [og_idx hb, og_idx hc]; exact h2
        · rw [og_idx hc]; exact h3
        · simp only [og_idx hb, og_idx hc]
  have := p.length_eq
  rwa [List.length_map] at this
theorem cnt_rel {n : Nat} {L M : Lg} {ord : List Nat} (W : Wf n L) (Q : Tot n L) (V : Wf n M) (Q' : Tot n M) (ho : ord.Perm (List.range n)) (hM : ∀ x y, y ∈ gd M x ↔ x < n ∧ y < n ∧ og ord y ∈ gd L (og ord x)) : cntM M = cntM L := by
  have h1 := sum_parts W
  have h2 := sum_parts V
  rw [su_congr fun s hs => by rw [ways_rel W V.tn ho hM hs], su_perm ho fun s => ((ways L s).length : Int), h1] at h2
  rw [← count_eq W Q, ← count_eq V Q', ← (rings_perm W).length_eq, ← (rings_perm V).length_eq]
  omega
/-! a ring turned -/
theorem cnt_congr {n : Nat} {L M : Lg} (hL : L.length = n) (hM : M.length = n) (h : ∀ x, (gd M x).length = (gd L x).length) : cntM M = cntM L := by
  unfold cntM
  rw [hL, hM, su_congr fun x _ => by rw [h x]]
theorem move_len {n : Nat} {R : Lg} (T : Tn n R) {a b : Nat} (h : b ∈ gd R a) (x : Nat) : ((gd ((R.set a ((gd R a).erase b)).set b (gd (R.set a ((gd R a).erase b)) b ++ [a])) x).length : Int) = (gd R x).length + (if x = b then 1 else 0) - (if x = a then 1 else 0) := by
  have ha : a < R.length := gd_lt h
  have hb : b < R.length := T.len ▸ T.lt _ _ h
  have ne : a ≠ b := fun e => by subst e; exact T.anti _ _ h h
  rw [gd_move ha hb ne]
  by_cases h1 : x = b
  · subst h1
    rw [if_pos rfl, if_pos rfl, if_neg (fun e => ne e.symm)]
    simp
  · rw [if_neg h1, if_neg h1]
    by_cases h2 : x = a
    · subst h2
      have := List.length_pos_of_mem h
      rw [if_pos rfl, if_pos rfl, List.length_erase_of_mem h]
      omega
    · rw [if_neg h2, if_neg h2]; omega
theorem ring_cnt {n : Nat} {R : Lg} (T : Tn n R) {a b c : Nat} (h1 : b ∈ gd R a) (h2 : c ∈ gd R b) (h3 : a ∈ gd R c) : cntM (turnM (turnM (turnM R a b) b c) a c) = cntM R := by
  obtain ⟨g2, g3, T1, T2, T3⟩ := turn3 T h1 h2 h3
  refine cnt_congr T.len T3.len fun x => ?_
  have e1 := move_len T h1 x
  have e2 := move_len T1 g2 x
  have e3 := move_len T2 g3 x
  have q1 : turnM R a b = (R.set a ((gd R a).erase b)).set b (gd (R.set a ((gd R a).erase b)) b ++ [a]) := by rw [turnM, if_pos h1]
  rw [← q1] at e1
  have q2 : turnM (turnM R a b) b c = ((turnM R a b).set b ((gd (turnM R a b) b).erase c)).set c (gd ((turnM R a b).set b ((gd (turnM R a b) b).erase c)) c ++ [b]) := by rw [turnM, if_pos g2]
  rw [← q2] at e2
  have q3 : turnM (turnM (turnM R a b) b c) a c = ((turnM (turnM R a b) b c).set c ((gd (turnM (turnM R a b) b c) c).erase a)).set a (gd ((turnM (turnM R a b) b c).set c ((gd (turnM (turnM R a b) b c) c).erase a)) a ++ [c]) := by rw [turnM, if_neg (T2.anti _ _ g3)]
  rw [← q3] at e3
  omega
end JM
namespace JM
/-! signs of renamed leagues and of rankings -/
def oddI (ord : List Nat) : Int := su ord.length fun i => (((ord.drop (i + 1)).filter fun y => decide (y < og ord i)).length : Int)
def renM (L : Lg) (ord : List Nat) : Lg := (List.range ord.length).map fun x => (List.range ord.length).filter fun o => decide (og ord o ∈ gd L (og ord x))
def rankR (ord : List Nat) : Lg := (List.range ord.length).map fun s => ord.drop (ord.idxOf s + 1)
theorem gd_map_range {n : Nat} (f : Nat → List Nat) {x : Nat} (hx : x < n) : gd ((List.range n).map f) x = f x := by
  simp [gd, List.getD_eq_getElem?_getD, List.getElem?_map, hx]
theorem gd_out {R : Lg} {x : Nat} (h : R.length ≤ x) : gd R x = [] := by simp [gd, List.getD_eq_getElem?_getD, List.getElem?_eq_none h]
theorem perm_len {n : Nat} {ord : List Nat} (ho : ord.Perm (List.range n)) : ord.length = n := by rw [ho.length_eq, List.length_range]
theorem perm_nd {n : Nat} {ord : List Nat} (ho : ord.Perm (List.range n)) : ord.Nodup := ho.symm.nodup List.nodup_range
theorem perm_mem {n : Nat} {ord : List Nat} (ho : ord.Perm (List.range n)) {x : Nat} : x ∈ ord ↔ x < n := by rw [ho.mem_iff, List.mem_range]
theorem ren_mem {n : Nat} {L : Lg} {ord : List Nat} (ho : ord.Perm (List.range n)) (x y : Nat) : y ∈ gd (renM L ord) x ↔ x < n ∧ y < n ∧ og ord y ∈ gd L (og ord x) := by
  have hl := perm_len ho
  by_cases hx : x < n
  · rw [renM, hl, gd_map_range _ hx]
    simp [hx]
  · rw [gd_out (by simp [renM, hl]; omega)]
    simp [hx]
theorem ren_wf {n : Nat} {L : Lg} {ord : List Nat} (W : Wf n L) (ho : ord.Perm (List.range n)) : Wf n (renM L ord) := by
  have hl := perm_len ho
  refine ⟨by simp [renM, hl], fun x => ?_, fun x y h => ((ren_mem ho x y).mp h).2.1, fun x y h r => W.anti _ _ ((ren_mem ho x y).mp h).2.2 ((ren_mem ho y x).mp r).2.2⟩
  by_cases hx : x < n
  · rw [renM, hl, gd_map_range _ hx]
    exact List.pairwise_lt_range.filter _
  · rw [gd_out (by simp [renM, hl]; omega)]
    exact List.Pairwise.nil
theorem ren_tot {n : Nat} {L : Lg} {ord : List Nat} (Q : Tot n L) (ho : ord.Perm (List.range n)) : Tot n (renM L ord) := fun x y hx hy ne =>
  (Q _ _ (og_lt ho hx) (og_lt ho hy) fun e => ne (og_inj ho hx hy e)).imp (fun h => (ren_mem ho x y).mpr ⟨hx, hy, h⟩) fun h => (ren_mem ho y x).mpr ⟨hy, hx, h⟩
theorem low_len {n : Nat} {L : Lg} (T : Tn n L) (x : Nat) : (lower x (gd L x) : Int) = su x (ed L x) := by
  have h : ((gd L x).filter fun y => decide (y < x)).Perm ((List.range x).filter fun y => decide (y ∈ gd L x)) :=
    (List.perm_ext_iff_of_nodup ((T.nd x).filter _) (List.nodup_range.filter _)).2 fun y => by simp; exact And.comm
  rw [lower, h.length_eq, filt_len]
  exact su_congr fun y _ => by simp [ed]
theorem up_eq {n : Nat} {L : Lg} (T : Tn n L) : upM L = su2 n fun a b => ed L b a := by
  rw [upM, T.len, su2]
  exact su_congr fun x _ => low_len T x
theorem su2_add {n : Nat} (f g : Nat → Nat → Int) : su2 n (fun a b => f a b + g a b) = su2 n f + su2 n g := by simp only [su2, su_add]
theorem su2_mulr {n : Nat} (f : Nat → Nat → Int) (k : Int) : su2 n (fun a b => f a b * k) = su2 n f * k := by simp only [su2, su_mulr]
theorem su2_congr {n : Nat} {f g : Nat → Nat → Int} (h : ∀ a b, a < b → b < n → f a b = g a b) : su2 n f = su2 n g := su_congr fun b hb => su_congr fun a ha => h a b ha hb
theorem su2_sym {n : Nat} {ord : List Nat} (ho : ord.Perm (List.range n)) {g : Nat → Nat → Int} (hs : ∀ x y, g x y = g y x) (h0 : ∀ x, g x x = 0) : su2 n (fun a b => g (og ord a) (og ord b)) = su2 n g := by
  have h1 := split2 n (fun a b => g (og ord a) (og ord b)) fun x => h0 _
  have h2 := split2 n g h0
  have h3 : su n (fun x => su n fun b => g (og ord x) (og ord b)) = su n (fun x => su n fun b => g x b) := by
    rw [su_congr fun x _ => su_perm ho (g (og ord x)), su_perm ho fun x => su n fun b => g x b]
  have h4 : su2 n (fun a b => g (og ord a) (og ord b) + g (og ord b) (og ord a)) = su2 n (fun a b => g (og ord a) (og ord b)) * 2 := by
    rw [← su2_mulr]; exact su2_congr fun a b _ _ => by rw [hs (og ord b)]; omega
  have h5 : su2 n (fun a b => g a b + g b a) = su2 n g * 2 := by
    rw [← su2_mulr]; exact su2_congr fun a b _ _ => by rw [hs b]; omega
  omega
theorem drop_up {ord : List Nat} (i : Nat) : ord.drop (i + 1) = (up i ord.length).map (og ord) := by
  refine List.ext_getElem (by simp [up]) fun j h1 h2 => ?_
  simp at h1
  simp [up, og, List.getD_eq_getElem?_getD, List.getElem?_eq_getElem (show i + 1 + j < ord.length by omega)]
theorem filt_sum {α : Type} (p : α → Bool) (xs : List α) : ((xs.filter p).length : Int) = (xs.map fun x => if p x then 1 else 0).sum := by
  induction xs with
  | nil => rfl
  | cons x xs ih =>
    rw [List.filter_cons, List.map_cons, List.sum_cons, ← ih]
    cases p x <;> simp; omega
def inv (ord : List Nat) (a b : Nat) : Int := if og ord b < og ord a then 1 else 0
theorem odd_eq (ord : List Nat) : oddI ord = su2 ord.length (inv ord) := by
  rw [oddI, ← up_sum]
  refine su_congr fun i _ => ?_
  rw [filt_sum, drop_up, List.map_map]
  congr 1
  exact List.map_congr_left fun b _ => by simp [inv]
theorem ren_sign {n : Nat} {L : Lg} {ord : List Nat} (W : Wf n L) (Q : Tot n L) (ho : ord.Perm (List.range n)) : signM (renM L ord) = (signM L + oddI ord) % 2 := by
  have hl := perm_len ho
  have hW := ren_wf W ho
  have hc := cnt_rel W Q hW (ren_tot Q ho) ho (ren_mem ho)
  have h1 := up_eq hW.tn
  have h2 := up_eq W.tn
  let g : Nat → Nat → Int := fun u v => ed L (max u v) (min u v)
  have e1 : su2 n (fun a b => ed (renM L ord) b a) = su2 n (fun a b => g (og ord a) (og ord b) + (inv ord a b + (inv ord a b * g (og ord a) (og ord b)) * -2)) := su2_congr fun a b hab hb => by
    have ha : a < n := by omega
    have e : ed (renM L ord) b a = ed L (og ord b) (og ord a) := by
      unfold ed
      have := ren_mem (L := L) ho b a
      by_cases q : og ord a ∈ gd L (og ord b)
      · rw [if_pos q, if_pos (this.mpr ⟨hb, ha, q⟩)]
      · rw [if_neg q, if_neg fun z => q (this.mp z).2.2]
    rw [e]
    have ne : og ord a ≠ og ord b := fun z => by have := og_inj ho ha hb z; omega
    show _ = ed L (max _ _) (min _ _) + _
    by_cases q : og ord b < og ord a
    · have q1 : max (og ord a) (og ord b) = og ord a := by omega
      have q2 : min (og ord a) (og ord b) = og ord b := by omega
      show _ = _ + (inv ord a b + (inv ord a b * ed L (max _ _) (min _ _)) * -2)
      rw [q1, q2, inv, if_pos q]
      have q3 : ed L (og ord b) (og ord a) = 1 - ed L (og ord a) (og ord b) := by
        unfold ed
        rcases Q _ _ (og_lt ho ha) (og_lt ho hb) ne with z | z
        · rw [if_neg (W.anti _ _ z), if_pos z]; rfl
        · rw [if_pos z, if_neg (W.anti _ _ z)]; rfl
      rw [q3]; omega
    · have q1 : max (og ord a) (og ord b) = og ord b := by omega
      have q2 : min (og ord a) (og ord b) = og ord a := by omega
      show _ = _ + (inv ord a b + (inv ord a b * ed L (max _ _) (min _ _)) * -2)
      rw [q1, q2, inv, if_neg q]; omega
  rw [su2_add, su2_add, su2_mulr, su2_sym (g := g) ho (fun x y => by show ed L (max x y) (min x y) = ed L (max y x) (min y x); rw [Nat.max_comm, Nat.min_comm]) (fun x => by
    show ed L (max x x) (min x x) = 0
    rw [Nat.max_self, Nat.min_self, ed, if_neg fun z => W.anti _ _ z z])] at e1
  have e2 : su2 n g = su2 n fun a b => ed L b a := su2_congr fun a b hab _ => by
    show ed L (max a b) (min a b) = _
    rw [show max a b = b by omega, show min a b = a by omega]
  have e3 := odd_eq ord
  rw [hl] at e3
  unfold signM
  rw [hc, h1, e1, e2, ← h2, ← e3]
  generalize su2 n (fun a b => inv ord a b * g (og ord a) (og ord b)) = z
  omega
/-! rankings -/
theorem mem_drop {ord : List Nat} (hn : ord.Nodup) {k y : Nat} : y ∈ ord.drop k ↔ y ∈ ord ∧ k ≤ ord.idxOf y := by
  constructor
  · intro h
    obtain ⟨i, hi, e⟩ := List.mem_iff_getElem.mp h
    rw [List.getElem_drop] at e
    refine ⟨List.mem_of_mem_drop h, ?_⟩
    rw [← e, hn.idxOf_getElem]
    omega
  · rintro ⟨h, hk⟩
    have hl : ord.idxOf y < ord.length := List.idxOf_lt_length_iff.mpr h
    refine List.mem_iff_getElem.mpr ⟨ord.idxOf y - k, by rw [List.length_drop]; omega, ?_⟩
    rw [List.getElem_drop]
    have : k + (ord.idxOf y - k) = ord.idxOf y := by omega
    simp only [this]
    exact List.getElem_idxOf hl
theorem gd_rank {n : Nat} {ord : List Nat} (ho : ord.Perm (List.range n)) {s : Nat} (hs : s < n) : gd (rankR ord) s = ord.drop (ord.idxOf s + 1) := by
  rw [rankR, perm_len ho, gd_map_range _ hs]
theorem rank_mem {n : Nat} {ord : List Nat} (ho : ord.Perm (List.range n)) {x y : Nat} : y ∈ gd (rankR ord) x ↔ x < n ∧ y < n ∧ ord.idxOf x < ord.idxOf y := by
  by_cases hx : x < n
  · rw [gd_rank ho hx, mem_drop (perm_nd ho), perm_mem ho]
    constructor
    · rintro ⟨h1, h2⟩; exact ⟨hx, h1, h2⟩
    · rintro ⟨_, h1, h2⟩; exact ⟨h1, h2⟩
  · rw [gd_out (by simp [rankR, perm_len ho]; omega)]
    simp [hx]
theorem rank_tn {n : Nat} {ord : List Nat} (ho : ord.Perm (List.range n)) : Tn n (rankR ord) := by
  refine ⟨by simp [rankR, perm_len ho], fun x => ?_, fun x y h => ((rank_mem ho).mp h).2.1, fun x y h r => ?_⟩
  · by_cases hx : x < n
    · rw [gd_rank ho hx]; exact (perm_nd ho).sublist (List.drop_sublist _ _)
    · rw [gd_out (by simp [rankR, perm_len ho]; omega)]; exact List.nodup_nil
  · have := ((rank_mem ho).mp h).2.2
    have := ((rank_mem ho).mp r).2.2
    omega
theorem idx_ne {n : Nat} {ord : List Nat} (ho : ord.Perm (List.range n)) {x y : Nat} (hx : x < n) (hy : y < n) (ne : x ≠ y) : ord.idxOf x ≠ ord.idxOf y := fun e => ne (by
  rw [← og_idx ((perm_mem ho).mpr hx), e, og_idx ((perm_mem ho).mpr hy)])
theorem rank_tot {n : Nat} {ord : List Nat} (ho : ord.Perm (List.range n)) : Tot n (rankR ord) := fun x y hx hy ne => by
  have := idx_ne ho hx hy ne
  by_cases q : ord.idxOf x < ord.idxOf y
  · exact .inl ((rank_mem ho).mpr ⟨hx, hy, q⟩)
  · exact .inr ((rank_mem ho).mpr ⟨hy, hx, by omega⟩)
theorem su_shift (n : Nat) (f : Nat → Int) : su (n + 1) f = f 0 + su n fun i => f (i + 1) := by
  induction n with
  | zero => simp [su, List.range_succ]
  | succ n ih => rw [su_succ, ih, su_succ]; omega
theorem su_rev (f : Nat → Int) : ∀ n, su n (fun i => f (n - (i + 1))) = su n f
  | 0 => rfl
  | n + 1 => by
    rw [su_shift, su_succ, ← su_rev f n]
    have : su n (fun i => f (n + 1 - (i + 1 + 1))) = su n fun i => f (n - (i + 1)) := su_congr fun i _ => by rw [show n + 1 - (i + 1 + 1) = n - (i + 1) by omega]
    rw [this]
    simp
    omega
theorem su_ch2 (n : Nat) : su n ch2 = t3 n := by
  induction n with
  | zero => rfl
  | succ n ih => rw [su_succ, ih]; rfl
theorem rank_cnt {n : Nat} {ord : List Nat} (ho : ord.Perm (List.range n)) : cntM (rankR ord) = 0 := by
  have hl := perm_len ho
  have h : su n (fun x => ch2 (gd (rankR ord) x).length) = t3 n := by
    rw [← su_ch2, ← su_rev ch2, ← su_perm ho fun x => ch2 (gd (rankR ord) x).length]
    refine su_congr fun i hi => ?_
    rw [gd_rank ho (og_lt ho hi), idx_og (perm_nd ho) (by omega), List.length_drop, hl]
  rw [cntM, (rank_tn ho).len, h, t3_eq]
  omega
theorem rank_up {n : Nat} {ord : List Nat} (ho : ord.Perm (List.range n)) : upM (rankR ord) = oddI ord := by
  have hl := perm_len ho
  rw [upM, (rank_tn ho).len, oddI, hl, ← su_perm ho fun x => (lower x (gd (rankR ord) x) : Int)]
  refine su_congr fun i hi => ?_
  rw [gd_rank ho (og_lt ho hi), idx_og (perm_nd ho) (by omega), lower]
theorem rank_sign {n : Nat} {ord : List Nat} (ho : ord.Perm (List.range n)) : signM (rankR ord) = oddI ord % 2 := by
  rw [signM, rank_cnt ho, rank_up ho]
  congr 1
  omega
end JM
namespace Law
open PySem PySem.Spec PyProof.Rows L2 MP
abbrev topS (i : Nat) : Stmt := PySem.Challenge.pw_levelturns_k17_whole_signs_of_leagues_an.main.body.getD i (.Pass ⟨0, 0, 0, 0⟩)
section
variable {Pr : Program} {w : World} {K : PySem.W.Frag} {mg : Str → Option Value} {base : Heap} {XR : (Addr → Prop) → Hp → Nat → List PyData → Value → Option Addr → Prop}

/-! beat -/
abbrev s_beat : Stmt := topS 1
theorem sc_beat : FnScope ["league", "a", "b"] ["league", "a", "b"] (defScope s_beat) := ⟨rfl, rfl, rfl, by decide +kernel, rfl, by decide +kernel, by decide +kernel⟩
def b_beat (cf : CF) : LS → SR :=
  (retS (op2E (cmpK .In) lvC false (varE 2) (op2E ixK lvB false (varE 0) (varE 1))))
def d_beat : BDef := ⟨3, 3, [], b_beat⟩
theorem k_beat (mono : Mono XR) {k fi : Nat} {f : Addr} {fd : FuncData} {cf cf' : CF} (F : Fun K "beat" "beat" s_beat f fd) (hcf : ∀ xs, cf' fi xs = runB d_beat.np d_beat.ns d_beat.io (d_beat.body cf) xs) :
    FnG Pr w K mg base (k + 1) f fd ["league", "a", "b"] (spF K XR cf' fi d_beat.np d_beat.io) :=
  fn_step (mono := mono) F sc_beat rfl rfl (by decide) rfl hcf fun cdv A outer s H E c =>
    (z_one (z_ret (e_cmp (q_in c) (vv 2) (e_ix c (vv 0) (vv 1)))))

/-! wins -/
abbrev s_wins : Stmt := topS 2
theorem sc_wins : FnScope ["league", "row"] ["league"] (defScope s_wins) := ⟨rfl, rfl, rfl, by decide +kernel, rfl, by decide +kernel, by decide +kernel⟩
def b_wins (cf : CF) : LS → SR :=
  (retS (biE (biD .tuple) (consA false (lcE [1] false (.nm 1) (itP (varE 0)) tyE (biE (biD .len) (consA false (varE 1) nilA))) nilA)))
def d_wins : BDef := ⟨1, 2, [], b_wins⟩
theorem k_wins (mono : Mono XR) {k fi : Nat} {f : Addr} {fd : FuncData} {cf cf' : CF} (F : Fun K "wins" "wins" s_wins f fd) (hcf : ∀ xs, cf' fi xs = runB d_wins.np d_wins.ns d_wins.io (d_wins.body cf) xs) (m_len_ : mg "len" = none) (m_tuple_ : mg "tuple" = none) :
    FnG Pr w K mg base (k + 1) f fd ["league"] (spF K XR cf' fi d_wins.np d_wins.io) :=
  fn_step (mono := mono) F sc_wins rfl rfl (by decide) rfl hcf fun cdv A outer s H E c =>
    (z_one (z_ret (e_ty (b_tuple c) m_tuple_ (a_cons (e_lc c [("row", 1)] [1] (i_any c (vv 0)) (fun _ _ _ _ _ c => (g_nm c 1)) (fun _ _ _ _ _ cb => ln) (fun _ _ _ _ _ cb => (e_bi (b_len cb) m_len_ (a_cons (vv 1) an)))) an))))

/-! renamed_row -/
abbrev s_renamed_row : Stmt := topS 3
theorem sc_renamed_row : FnScope ["league", "order", "side", "other"] ["league", "order", "side"] (defScope s_renamed_row) := ⟨rfl, rfl, rfl, by decide +kernel, rfl, by decide +kernel, by decide +kernel⟩
def b_renamed_row (cf : CF) : LS → SR :=
  (retS (biE (biD .tuple) (consA false (lcE [3] false (.nm 3) (itR true (consA false (biE (biD .len) (consA false (varE 1) nilA)) nilA)) (tstE (callEE cf 11 (consC false (varE 0) (consC false (op2E ixK lvB false (varE 1) (varE 2)) (consC false (op2E ixK lvB false (varE 1) (varE 3)) nilC))))) (varE 3)) nilA)))
def d_renamed_row : BDef := ⟨3, 4, [], b_renamed_row⟩
theorem k_renamed_row (mono : Mono XR) {k fi : Nat} {f : Addr} {fd : FuncData} {cf cf' : CF} (F : Fun K "renamed_row" "renamed_row" s_renamed_row f fd) (hcf : ∀ xs, cf' fi xs = runB d_renamed_row.np d_renamed_row.ns d_renamed_row.io (d_renamed_row.body cf) xs) (m_len_ : mg "len" = none) (m_range_ : mg "range" = none) (m_tuple_ : mg "tuple" = none)
    (C_beat : ∀ (X : Cx) (Y : Yx), X.prog = Pr → X.w = w → X.K = K → X.mg = mg → X.base = base → Y.K = K → Y.XR = XR → Cal k X Y "beat" cf 11 3 []) :
    FnG Pr w K mg base (k + 1) f fd ["league", "order", "side"] (spF K XR cf' fi d_renamed_row.np d_renamed_row.io) :=
  fn_step (mono := mono) F sc_renamed_row rfl rfl (by decide) rfl hcf fun cdv A outer s H E c =>
    have C_beat := C_beat (cxOf (L2.CX Pr w) Pr w K mg base _ _ (defScope s_renamed_row) f cdv A outer s H E) (yOf K XR mono E) rfl rfl rfl rfl rfl rfl rfl
    (z_one (z_ret (e_ty (b_tuple c) m_tuple_ (a_cons (e_lc c [("other", 3)] [3] (i_rng1 c m_range_ (a_cons (e_bi (b_len c) m_len_ (a_cons (vv 1) an)) an)) (fun _ _ _ _ _ c => (g_nm c 3)) (fun _ _ _ _ _ cb => (lo (t_val (e_call cb (C_beat.blk ..) (ac_cons (vv 0) (ac_cons (e_ix cb (vv 1) (vv 2)) (ac_cons (e_ix cb (vv 1) (vv 3)) acn))))))) (fun _ _ _ _ _ cb => (vv 3))) an))))

/-! renamed -/
abbrev s_renamed : Stmt := topS 4
theorem sc_renamed : FnScope ["league", "order", "side"] ["league", "order"] (defScope s_renamed) := ⟨rfl, rfl, rfl, by decide +kernel, rfl, by decide +kernel, by decide +kernel⟩
def b_renamed (cf : CF) : LS → SR :=
  (retS (biE (biD .tuple) (consA false (lcE [2] false (.nm 2) (itR true (consA false (biE (biD .len) (consA false (varE 1) nilA)) nilA)) tyE (callEE cf 25 (consC false (varE 0) (consC false (varE 1) (consC false (varE 2) nilC))))) nilA)))
def d_renamed : BDef := ⟨2, 3, [], b_renamed⟩
theorem k_renamed (mono : Mono XR) {k fi : Nat} {f : Addr} {fd : FuncData} {cf cf' : CF} (F : Fun K "renamed" "renamed" s_renamed f fd) (hcf : ∀ xs, cf' fi xs = runB d_renamed.np d_renamed.ns d_renamed.io (d_renamed.body cf) xs) (m_len_ : mg "len" = none) (m_range_ : mg "range" = none) (m_tuple_ : mg "tuple" = none)
    (C_renamed_row : ∀ (X : Cx) (Y : Yx), X.prog = Pr → X.w = w → X.K = K → X.mg = mg → X.base = base → Y.K = K → Y.XR = XR → Cal k X Y "renamed_row" cf 25 3 []) :
    FnG Pr w K mg base (k + 1) f fd ["league", "order"] (spF K XR cf' fi d_renamed.np d_renamed.io) :=
  fn_step (mono := mono) F sc_renamed rfl rfl (by decide) rfl hcf fun cdv A outer s H E c =>
    have C_renamed_row := C_renamed_row (cxOf (L2.CX Pr w) Pr w K mg base _ _ (defScope s_renamed) f cdv A outer s H E) (yOf K XR mono E) rfl rfl rfl rfl rfl rfl rfl
    (z_one (z_ret (e_ty (b_tuple c) m_tuple_ (a_cons (e_lc c [("side", 2)] [2] (i_rng1 c m_range_ (a_cons (e_bi (b_len c) m_len_ (a_cons (vv 1) an)) an)) (fun _ _ _ _ _ c => (g_nm c 2)) (fun _ _ _ _ _ cb => ln) (fun _ _ _ _ _ cb => (e_call cb (C_renamed_row.blk ..) (ac_cons (vv 0) (ac_cons (vv 1) (ac_cons (vv 2) acn)))))) an))))

/-! ranking -/
abbrev s_ranking : Stmt := topS 6
theorem sc_ranking : FnScope ["order", "side"] ["order"] (defScope s_ranking) := ⟨rfl, rfl, rfl, by decide +kernel, rfl, by decide +kernel, by decide +kernel⟩
def b_ranking (cf : CF) : LS → SR :=
  (retS (biE (biD .tuple) (consA false (lcE [1] false (.nm 1) (itR true (consA false (biE (biD .len) (consA false (varE 0) nilA)) nilA)) tyE (biE (biD .tuple) (consA false (biE (biD .sorted) (consA false (slE false (varE 0) (intO (op2E (bopD .Add) lvB false (idxE false (varE 0) (consA false (varE 1) nilA)) (cE (.int 1)))) noO) nilA)) nilA))) nilA)))
def d_ranking : BDef := ⟨1, 2, [], b_ranking⟩
theorem k_ranking (mono : Mono XR) {k fi : Nat} {f : Addr} {fd : FuncData} {cf cf' : CF} (F : Fun K "ranking" "ranking" s_ranking f fd) (hcf : ∀ xs, cf' fi xs = runB d_ranking.np d_ranking.ns d_ranking.io (d_ranking.body cf) xs) (m_len_ : mg "len" = none) (m_range_ : mg "range" = none) (m_sorted_ : mg "sorted" = none) (m_tuple_ : mg "tuple" = none) :
    FnG Pr w K mg base (k + 1) f fd ["order"] (spF K XR cf' fi d_ranking.np d_ranking.io) :=
  fn_step (mono := mono) F sc_ranking rfl rfl (by decide) rfl hcf fun cdv A outer s H E c =>
    (z_one (z_ret (e_ty (b_tuple c) m_tuple_ (a_cons (e_lc c [("side", 1)] [1] (i_rng1 c m_range_ (a_cons (e_bi (b_len c) m_len_ (a_cons (vv 0) an)) an)) (fun _ _ _ _ _ c => (g_nm c 1)) (fun _ _ _ _ _ cb => ln) (fun _ _ _ _ _ cb => (e_ty (b_tuple cb) m_tuple_ (a_cons (e_bi (b_sorted cb) m_sorted_ (a_cons (e_sl cb (vv 0) (o_some (e_op (o_add cb) (e_index cb (vv 0) (a_cons (vv 1) an)) k_int)) on) an)) an)))) an))))

/-! ring_count -/
abbrev s_ring_count : Stmt := topS 8
theorem sc_ring_count : FnScope ["league", "n", "won"] ["league"] (defScope s_ring_count) := ⟨rfl, rfl, rfl, by decide +kernel, rfl, by decide +kernel, by decide +kernel⟩
def b_ring_count (cf : CF) : LS → SR :=
  (seqS (setS1 1 (biE (biD .len) (consA false (varE 0) nilA)))
  (retS (op2E (bopD .Sub) lvB false (op2E (bopD .FloorDiv) lvB false (op2E (bopD .Mult) lvB false (op2E (bopD .Mult) lvB false (varE 1) (op2E (bopD .Sub) lvB false (varE 1) (cE (.int 1)))) (op2E (bopD .Sub) lvB false (varE 1) (cE (.int 2)))) (cE (.int 6))) (biE (biD .sum) (consA false (lcE [2] false (.nm 2) (itP (callEE cf 12 (consC false (varE 0) nilC))) tyE (op2E (bopD .FloorDiv) lvB false (op2E (bopD .Mult) lvB false (varE 2) (op2E (bopD .Sub) lvB false (varE 2) (cE (.int 1)))) (cE (.int 2)))) nilA)))))
def d_ring_count : BDef := ⟨1, 3, [], b_ring_count⟩
theorem k_ring_count (mono : Mono XR) {k fi : Nat} {f : Addr} {fd : FuncData} {cf cf' : CF} (F : Fun K "ring_count" "ring_count" s_ring_count f fd) (hcf : ∀ xs, cf' fi xs = runB d_ring_count.np d_ring_count.ns d_ring_count.io (d_ring_count.body cf) xs) (m_len_ : mg "len" = none) (m_sum_ : mg "sum" = none)
    (C_wins : ∀ (X : Cx) (Y : Yx), X.prog = Pr → X.w = w → X.K = K → X.mg = mg → X.base = base → Y.K = K → Y.XR = XR → Cal k X Y "wins" cf 12 1 []) :
    FnG Pr w K mg base (k + 1) f fd ["league"] (spF K XR cf' fi d_ring_count.np d_ring_count.io) :=
  fn_step (mono := mono) F sc_ring_count rfl rfl (by decide) rfl hcf fun cdv A outer s H E c =>
    have C_wins := C_wins (cxOf (L2.CX Pr w) Pr w K mg base _ _ (defScope s_ring_count) f cdv A outer s H E) (yOf K XR mono E) rfl rfl rfl rfl rfl rfl rfl
    (z_seq (s_set c 1 (e_bi (b_len c) m_len_ (a_cons (vv 0) an)))
    (z_one (z_ret (e_op (o_sub c) (e_op (o_fdiv c) (e_op (o_mul c) (e_op (o_mul c) (vv 1) (e_op (o_sub c) (vv 1) k_int)) (e_op (o_sub c) (vv 1) k_int)) k_int) (e_bi (b_sum c) m_sum_ (a_cons (e_lc c [("won", 2)] [2] (i_any c (e_call c C_wins (ac_cons (vv 0) acn))) (fun _ _ _ _ _ c => (g_nm c 2)) (fun _ _ _ _ _ cb => ln) (fun _ _ _ _ _ cb => (e_op (o_fdiv cb) (e_op (o_mul cb) (vv 2) (e_op (o_sub cb) (vv 2) k_int)) k_int))) an))))))

/-! sign -/
abbrev s_sign : Stmt := topS 10
theorem sc_sign : FnScope ["league", "found", "side", "beaten", "other"] ["league"] (defScope s_sign) := ⟨rfl, rfl, rfl, by decide +kernel, rfl, by decide +kernel, by decide +kernel⟩
def b_sign (cf : CF) : LS → SR :=
  (seqS (setS1 1 (callEE cf 14 (consC false (varE 0) nilC)))
  (seqS (forS (itEA (consA false (varE 0) nilA)) (.tp (.cons (.nm 2) (.cons (.nm 3) .nil)))
  (setS1 1 (op2E (bopD .Add) lvB false (varE 1) (biE (biD .len) (consA false (lcE [4] false (.nm 4) (itP (varE 3)) (tstE (op2E (cmpK .Lt) lvC false (varE 4) (varE 2))) (varE 4)) nilA)))))
  (retS (op2E (bopD .Mod) lvB false (varE 1) (cE (.int 2))))))
def d_sign : BDef := ⟨1, 5, [], b_sign⟩
theorem k_sign (mono : Mono XR) {k fi : Nat} {f : Addr} {fd : FuncData} {cf cf' : CF} (F : Fun K "sign" "sign" s_sign f fd) (hcf : ∀ xs, cf' fi xs = runB d_sign.np d_sign.ns d_sign.io (d_sign.body cf) xs) (m_enumerate_ : mg "enumerate" = none) (m_len_ : mg "len" = none)
    (C_ring_count : ∀ (X : Cx) (Y : Yx), X.prog = Pr → X.w = w → X.K = K → X.mg = mg → X.base = base → Y.K = K → Y.XR = XR → Cal k X Y "ring_count" cf 14 1 []) :
    FnG Pr w K mg base (k + 1) f fd ["league"] (spF K XR cf' fi d_sign.np d_sign.io) :=
  fn_step (mono := mono) F sc_sign rfl rfl (by decide) rfl hcf fun cdv A outer s H E c =>
    have C_ring_count := C_ring_count (cxOf (L2.CX Pr w) Pr w K mg base _ _ (defScope s_sign) f cdv A outer s H E) (yOf K XR mono E) rfl rfl rfl rfl rfl rfl rfl
    (z_seq (s_set c 1 (e_call c C_ring_count (ac_cons (vv 0) acn)))
    (z_seq (z_for c pass_def (i_enumA c m_enumerate_ (a_cons (vv 0) an)) (g_tup c (g_cons (g_nm c 2) (g_cons (g_nm c 3) g_nil)))
    (z_one (s_set c 1 (e_op (o_add c) (vv 1) (e_bi (b_len c) m_len_ (a_cons (e_lc c [("other", 4)] [4] (i_any c (vv 3)) (fun _ _ _ _ _ c => (g_nm c 4)) (fun _ _ _ _ _ cb => (lo (t_cmp (q_lt cb) (vv 4) (vv 2)))) (fun _ _ _ _ _ cb => (vv 4))) an))))))
    (z_one (z_ret (e_op (o_mod c) (vv 1) k_int)))))

/-! order_sign -/
abbrev s_order_sign : Stmt := topS 11
theorem sc_order_sign : FnScope ["order", "found", "place", "side", "other"] ["order"] (defScope s_order_sign) := ⟨rfl, rfl, rfl, by decide +kernel, rfl, by decide +kernel, by decide +kernel⟩
def b_order_sign (cf : CF) : LS → SR :=
  (seqS (setS1 1 (cE (.int 0)))
  (seqS (forS (itEA (consA false (varE 0) nilA)) (.tp (.cons (.nm 2) (.cons (.nm 3) .nil)))
  (setS1 1 (op2E (bopD .Add) lvB false (varE 1) (biE (biD .len) (consA false (lcE [4] false (.nm 4) (itP (slE false (varE 0) (intO (op2E (bopD .Add) lvB false (varE 2) (cE (.int 1)))) noO)) (tstE (op2E (cmpK .Lt) lvC false (varE 4) (varE 3))) (varE 4)) nilA)))))
  (retS (op2E (bopD .Mod) lvB false (varE 1) (cE (.int 2))))))
def d_order_sign : BDef := ⟨1, 5, [], b_order_sign⟩
theorem k_order_sign (mono : Mono XR) {k fi : Nat} {f : Addr} {fd : FuncData} {cf cf' : CF} (F : Fun K "order_sign" "order_sign" s_order_sign f fd) (hcf : ∀ xs, cf' fi xs = runB d_order_sign.np d_order_sign.ns d_order_sign.io (d_order_sign.body cf) xs) (m_enumerate_ : mg "enumerate" = none) (m_len_ : mg "len" = none) :
    FnG Pr w K mg base (k + 1) f fd ["order"] (spF K XR cf' fi d_order_sign.np d_order_sign.io) :=
  fn_step (mono := mono) F sc_order_sign rfl rfl (by decide) rfl hcf fun cdv A outer s H E c =>
    (z_seq (s_set c 1 k_int)
    (z_seq (z_for c pass_def (i_enumA c m_enumerate_ (a_cons (vv 0) an)) (g_tup c (g_cons (g_nm c 2) (g_cons (g_nm c 3) g_nil)))
    (z_one (s_set c 1 (e_op (o_add c) (vv 1) (e_bi (b_len c) m_len_ (a_cons (e_lc c [("other", 4)] [4] (i_any c (e_sl c (vv 0) (o_some (e_op (o_add c) (vv 2) k_int)) on)) (fun _ _ _ _ _ c => (g_nm c 4)) (fun _ _ _ _ _ cb => (lo (t_cmp (q_lt cb) (vv 4) (vv 3)))) (fun _ _ _ _ _ cb => (vv 4))) an))))))
    (z_one (z_ret (e_op (o_mod c) (vv 1) k_int)))))

/-! _law_jar -/
abbrev s__law_jar : Stmt := topS 13
theorem sc__law_jar : FnScope ["script", "own", "far", "cells", "seal"] ["script"] (defScope s__law_jar) := ⟨rfl, rfl, rfl, by decide +kernel, rfl, by decide +kernel, by decide +kernel⟩
def b__law_jar (cf : CF) : LS → SR :=
  (seqS (parS [3, 4] (consA false (frzE (lcE [1] false (.nm 1) (itP (slE false (varE 0) noO (intO (cE (.int 63))))) tyE (iteE (op2E (cmpK .GtE) lvC false (varE 1) (cE (.int 0))) (op2E (bopD .Mult) lvB false (cE (.int 2)) (varE 1)) (op2E (bopD .Sub) lvB false (op2E (bopD .Mult) lvB false (negE (cE (.int 2))) (varE 1)) (cE (.int 1)))))) (consA false (op2E (bopD .Add) lvB false (cE (.int 15026)) (op2E (bopD .Mult) lvB false (cE (.int 5)) (biE (biD .len) (consA false (varE 0) nilA)))) nilA)))
  (seqS (forS (itP (varE 3)) (.nm 1)
  (setS1 4 (op2E (bopD .Mod) lvB false (biE (biD .int) (consA false (op2E (bopD .Add) lvB false (op2E (bopD .Add) lvB false (op2E (bopD .Mult) lvB false (varE 4) (cE (.int 16807))) (op2E (bopD .Mult) lvB false (varE 1) (cE (.int 3)))) (cE (.int 5))) nilA)) (cE (.int 4294967279)))))
  (seqS (setS1 2 (lcE [1] false (.nm 1) (itP (varE 3)) (tstE (op2E (cmpK .GtE) lvC false (varE 1) (op2E (bopD .Pow) lvB false (cE (.int 10)) (cE (.int 18))))) (varE 1)))
  (retS (dkE ["far", "cells", "seal", "count"] (consA false (takeE 2) (consA false (frzE (op2E (bopD .Add) lvB false (varE 3) (lstE (consA false (op2E (bopD .Add) lvB false (op2E (bopD .Mult) lvB false (cE (.int 7)) (biE (biD .len) (consA false (varE 3) nilA))) (cE (.int 3))) nilA)))) (consA false (varE 4) (consA false (cE (.int 0)) nilA)))))))))
def d__law_jar : BDef := ⟨1, 5, [], b__law_jar⟩
theorem k__law_jar (mono : Mono XR) {k fi : Nat} {f : Addr} {fd : FuncData} {cf cf' : CF} (F : Fun K "_law_jar" "_law_jar" s__law_jar f fd) (hcf : ∀ xs, cf' fi xs = runB d__law_jar.np d__law_jar.ns d__law_jar.io (d__law_jar.body cf) xs) (m_int_ : mg "int" = none) (m_len_ : mg "len" = none) :
    FnG Pr w K mg base (k + 1) f fd ["script"] (spF K XR cf' fi d__law_jar.np d__law_jar.io) :=
  fn_step (mono := mono) F sc__law_jar rfl rfl (by decide) rfl hcf fun cdv A outer s H E c =>
    (z_seq (s_par c 3 4 (a_cons (e_frz (e_lc c [("own", 1)] [1] (i_any c (e_sl c (vv 0) on (o_some k_int))) (fun _ _ _ _ _ c => (g_nm c 1)) (fun _ _ _ _ _ cb => ln) (fun _ _ _ _ _ cb => (e_ite (t_cmp (q_ge cb) (vv 1) k_int) (e_op (o_mul cb) k_int (vv 1)) (e_op (o_sub cb) (e_op (o_mul cb) (e_neg k_int) (vv 1)) k_int))))) (a_cons (e_op (o_add c) k_int (e_op (o_mul c) k_int (e_bi (b_len c) m_len_ (a_cons (vv 0) an)))) an)))
    (z_seq (z_for c pass_def (i_any c (vv 3)) (g_nm c 1)
    (z_one (s_set c 4 (e_op (o_mod c) (e_ty (b_int c) m_int_ (a_cons (e_op (o_add c) (e_op (o_add c) (e_op (o_mul c) (vv 4) k_int) (e_op (o_mul c) (vv 1) k_int)) k_int) an)) k_int))))
    (z_seq (z_lc c 2 [("own", 1)] [1] (i_any c (vv 3)) (fun _ _ _ _ _ c => (g_nm c 1)) (fun _ _ _ _ _ cb => (lo (t_cmp (q_ge cb) (vv 1) (e_op (o_pow cb) k_int k_int)))) (fun _ _ _ _ _ cb => (vv 1)))
    (z_one (z_ret (e_dk (d_cons (tv 2) (d_cons (e_frz (e_op (o_add c) (vv 3) (e_lst (a_cons (e_op (o_add c) (e_op (o_mul c) k_int (e_bi (b_len c) m_len_ (a_cons (vv 3) an))) k_int) an)))) (d_cons (vv 4) (d_cons k_int dn))))))))))

/-! _law_draw -/
abbrev s__law_draw : Stmt := topS 14
theorem sc__law_draw : FnScope ["jar", "many", "far", "mix", "whole", "count", "cells"] ["jar", "many"] (defScope s__law_draw) := ⟨rfl, rfl, rfl, by decide +kernel, rfl, by decide +kernel, by decide +kernel⟩
def b__law_draw (cf : CF) : LS → SR :=
  (seqS (shareS 0 (.inr "far"))
  (seqS (setS1 2 (rdE 0 (snocP nilP (cE (.str "far")))))
  (seqS (ifS (tstE (op2E (cmpK .NotEq) lvC false (varE 2) (lstE nilA))) (seqS (setS1 4 (mutE 2 false (mutG .pop) nilP (consA false (cE (.int 0)) nilA)))
  (seqS (ifS (tstE (op2E (cmpK .GtE) lvC false (varE 4) (varE 1))) (exS (mutE 2 false (mutG .insert) nilP (consA false (cE (.int 0)) (consA false (op2E (bopD .FloorDiv) lvB false (varE 4) (varE 1)) nilA)))) nxtS)
  (retS (op2E (bopD .Mod) lvB false (biE (biD .int) (consA false (varE 4) nilA)) (varE 1))))) nxtS)
  (seqS (setS 0 false (op2E (bopD .Add) lvB false (rdE 0 (snocP nilP (cE (.str "count")))) (cE (.int 1))) nilP (cE (.str "count")))
  (seqS (parS [5, 6] (consA false (rdE 0 (snocP nilP (cE (.str "count")))) (consA false (rdE 0 (snocP nilP (cE (.str "cells")))) nilA)))
  (seqS (setS1 3 (op2E (bopD .Mod) lvB false (biE (biD .int) (consA false (op2E (bopD .Add) lvB false (op2E (bopD .Add) lvB false (rdE 0 (snocP nilP (cE (.str "seal")))) (op2E (bopD .Mult) lvB false (cE (.int 7919)) (biE (biD .int) (consA false (op2E ixK lvB false (varE 6) (op2E (bopD .Mod) lvB false (biE (biD .int) (consA false (varE 5) nilA)) (biE (biD .len) (consA false (varE 6) nilA)))) nilA)))) (op2E (bopD .Mult) lvB false (cE (.int 104729)) (varE 5))) nilA)) (cE (.int 4294967291))))
  (seqS (setS1 3 (op2E (bopD .Mod) lvB false (biE (biD .int) (consA false (op2E (bopD .Add) lvB false (op2E (bopD .Add) lvB false (op2E (bopD .Mult) lvB false (varE 3) (cE (.int 22695477))) (op2E (bopD .Mult) lvB false (varE 5) (varE 5))) (cE (.int 1))) nilA)) (cE (.int 4294967291))))
  (seqS (setS1 3 (op2E (bopD .Mod) lvB false (biE (biD .int) (consA false (op2E (bopD .Add) lvB false (op2E (bopD .Mult) lvB false (varE 3) (cE (.int 48271))) (op2E (bopD .FloorDiv) lvB false (varE 3) (cE (.int 65536)))) nilA)) (cE (.int 4294967279))))
  (retS (op2E (bopD .Mod) lvB false (biE (biD .int) (consA false (op2E (bopD .FloorDiv) lvB false (varE 3) (cE (.int 1024))) nilA)) (varE 1)))))))))))
def d__law_draw : BDef := ⟨2, 7, [0], b__law_draw⟩
theorem k__law_draw (mono : Mono XR) {k fi : Nat} {f : Addr} {fd : FuncData} {cf cf' : CF} (F : Fun K "_law_draw" "_law_draw" s__law_draw f fd) (hcf : ∀ xs, cf' fi xs = runB d__law_draw.np d__law_draw.ns d__law_draw.io (d__law_draw.body cf) xs) (m_int_ : mg "int" = none) (m_len_ : mg "len" = none) :
    FnG Pr w K mg base (k + 1) f fd ["jar", "many"] (spF K XR cf' fi d__law_draw.np d__law_draw.io) :=
  fn_step (mono := mono) F sc__law_draw rfl rfl (by decide) rfl hcf fun cdv A outer s H E c =>
    (z_share 0 (.inr "far") (z_seq (s_set c 2 (e_rd (p_ix c (pn 0) k_str)))
    (z_seq (z_if (t_cmp (q_ne c) (vv 2) (e_lst an)) (z_seq (s_set c 4 (m_pop c false (pn 2) (a_cons k_int an)))
    (z_seq (z_if (t_cmp (q_ge c) (vv 4) (vv 1)) (z_one (z_ex (m_insert c false (pn 2) (a_cons k_int (a_cons (e_op (o_fdiv c) (vv 4) (vv 1)) an))))) z_nil)
    (z_one (z_ret (e_op (o_mod c) (e_ty (b_int c) m_int_ (a_cons (vv 4) an)) (vv 1)))))) z_nil)
    (z_seq (s_setix c false (e_op (o_add c) (e_rd (p_ix c (pn 0) k_str)) k_int) (pn 0) k_str)
    (z_seq (s_par c 5 6 (a_cons (e_rd (p_ix c (pn 0) k_str)) (a_cons (e_rd (p_ix c (pn 0) k_str)) an)))
    (z_seq (s_set c 3 (e_op (o_mod c) (e_ty (b_int c) m_int_ (a_cons (e_op (o_add c) (e_op (o_add c) (e_rd (p_ix c (pn 0) k_str)) (e_op (o_mul c) k_int (e_ty (b_int c) m_int_ (a_cons (e_ix c (vv 6) (e_op (o_mod c) (e_ty (b_int c) m_int_ (a_cons (vv 5) an)) (e_bi (b_len c) m_len_ (a_cons (vv 6) an)))) an)))) (e_op (o_mul c) k_int (vv 5))) an)) k_int))
    (z_seq (s_set c 3 (e_op (o_mod c) (e_ty (b_int c) m_int_ (a_cons (e_op (o_add c) (e_op (o_add c) (e_op (o_mul c) (vv 3) k_int) (e_op (o_mul c) (vv 5) (vv 5))) k_int) an)) k_int))
    (z_seq (s_set c 3 (e_op (o_mod c) (e_ty (b_int c) m_int_ (a_cons (e_op (o_add c) (e_op (o_mul c) (vv 3) k_int) (e_op (o_fdiv c) (vv 3) k_int)) an)) k_int))
    (z_one (z_ret (e_op (o_mod c) (e_ty (b_int c) m_int_ (a_cons (e_op (o_fdiv c) (vv 3) k_int) an)) (vv 1))))))))))))

/-! _law_pick -/
abbrev s__law_pick : Stmt := topS 15
theorem sc__law_pick : FnScope ["jar", "row"] ["jar", "row"] (defScope s__law_pick) := ⟨rfl, rfl, rfl, by decide +kernel, rfl, by decide +kernel, by decide +kernel⟩
def b__law_pick (cf : CF) : LS → SR :=
  (retS (op2E ixK lvB true (varE 1) (callEE cf 1 (slotC 0 (consC false (biE (biD .len) (consA false (varE 1) nilA)) nilC)))))
def d__law_pick : BDef := ⟨2, 2, [0], b__law_pick⟩
theorem k__law_pick (mono : Mono XR) {k fi : Nat} {f : Addr} {fd : FuncData} {cf cf' : CF} (F : Fun K "_law_pick" "_law_pick" s__law_pick f fd) (hcf : ∀ xs, cf' fi xs = runB d__law_pick.np d__law_pick.ns d__law_pick.io (d__law_pick.body cf) xs) (m_len_ : mg "len" = none)
    (C__law_draw : ∀ (X : Cx) (Y : Yx), X.prog = Pr → X.w = w → X.K = K → X.mg = mg → X.base = base → Y.K = K → Y.XR = XR → Cal k X Y "_law_draw" cf 1 2 [0]) :
    FnG Pr w K mg base (k + 1) f fd ["jar", "row"] (spF K XR cf' fi d__law_pick.np d__law_pick.io) :=
  fn_step (mono := mono) F sc__law_pick rfl rfl (by decide) rfl hcf fun cdv A outer s H E c =>
    have C__law_draw := C__law_draw (cxOf (L2.CX Pr w) Pr w K mg base _ _ (defScope s__law_pick) f cdv A outer s H E) (yOf K XR mono E) rfl rfl rfl rfl rfl rfl rfl
    (z_one (z_ret (e_ix c (vv 1) (e_call c C__law_draw (ac_slot 0 (ac_cons (e_bi (b_len c) m_len_ (a_cons (vv 1) an)) acn))))))

/-! _law_mixed -/
abbrev s__law_mixed : Stmt := topS 16
theorem sc__law_mixed : FnScope ["jar", "row", "left", "found"] ["jar", "row"] (defScope s__law_mixed) := ⟨rfl, rfl, rfl, by decide +kernel, rfl, by decide +kernel, by decide +kernel⟩
def b__law_mixed (cf : CF) : LS → SR :=
  (seqS (parS [2, 3] (consA false (biE (biD .list) (consA false (varE 1) nilA)) (consA false (lstE nilA) nilA)))
  (seqS (whlS (tstE (op2E (cmpK .NotEq) lvC false (varE 2) (lstE nilA)))
  (exS (mutE 3 false (mutG .append) nilP (consA false (mutE 2 false (mutG .pop) nilP (consA false (callEE cf 1 (slotC 0 (consC false (biE (biD .len) (consA false (varE 2) nilA)) nilC))) nilA)) nilA))))
  (retS (takeE 3))))
def d__law_mixed : BDef := ⟨2, 4, [0], b__law_mixed⟩
theorem k__law_mixed (mono : Mono XR) {k fi : Nat} {f : Addr} {fd : FuncData} {cf cf' : CF} (F : Fun K "_law_mixed" "_law_mixed" s__law_mixed f fd) (hcf : ∀ xs, cf' fi xs = runB d__law_mixed.np d__law_mixed.ns d__law_mixed.io (d__law_mixed.body cf) xs) (m_len_ : mg "len" = none) (m_list_ : mg "list" = none)
    (C__law_draw : ∀ (X : Cx) (Y : Yx), X.prog = Pr → X.w = w → X.K = K → X.mg = mg → X.base = base → Y.K = K → Y.XR = XR → Cal k X Y "_law_draw" cf 1 2 [0]) :
    FnG Pr w K mg base (k + 1) f fd ["jar", "row"] (spF K XR cf' fi d__law_mixed.np d__law_mixed.io) :=
  fn_step (mono := mono) F sc__law_mixed rfl rfl (by decide) rfl hcf fun cdv A outer s H E c =>
    have C__law_draw := C__law_draw (cxOf (L2.CX Pr w) Pr w K mg base _ _ (defScope s__law_mixed) f cdv A outer s H E) (yOf K XR mono E) rfl rfl rfl rfl rfl rfl rfl
    (z_seq (s_par c 2 3 (a_cons (e_ty (b_list c) m_list_ (a_cons (vv 1) an)) (a_cons (e_lst an) an)))
    (z_seq (z_whl pass_def (t_cmp (q_ne c) (vv 2) (e_lst an))
    (z_one (z_ex (m_append c false (pn 3) (a_cons (m_pop c false (pn 2) (a_cons (e_call c C__law_draw (ac_slot 0 (ac_cons (e_bi (b_len c) m_len_ (a_cons (vv 2) an)) acn))) an)) an)))))
    (z_one (z_ret (tv 3)))))

/-! _law_rows -/
abbrev s__law_rows : Stmt := topS 17
theorem sc__law_rows : FnScope ["league", "row"] ["league"] (defScope s__law_rows) := ⟨rfl, rfl, rfl, by decide +kernel, rfl, by decide +kernel, by decide +kernel⟩
def b__law_rows (cf : CF) : LS → SR :=
  (retS (lcE [1] false (.nm 1) (itP (varE 0)) tyE (biE (biD .list) (consA false (varE 1) nilA))))
def d__law_rows : BDef := ⟨1, 2, [], b__law_rows⟩
theorem k__law_rows (mono : Mono XR) {k fi : Nat} {f : Addr} {fd : FuncData} {cf cf' : CF} (F : Fun K "_law_rows" "_law_rows" s__law_rows f fd) (hcf : ∀ xs, cf' fi xs = runB d__law_rows.np d__law_rows.ns d__law_rows.io (d__law_rows.body cf) xs) (m_list_ : mg "list" = none) :
    FnG Pr w K mg base (k + 1) f fd ["league"] (spF K XR cf' fi d__law_rows.np d__law_rows.io) :=
  fn_step (mono := mono) F sc__law_rows rfl rfl (by decide) rfl hcf fun cdv A outer s H E c =>
    (z_one (z_ret (e_lc c [("row", 1)] [1] (i_any c (vv 0)) (fun _ _ _ _ _ c => (g_nm c 1)) (fun _ _ _ _ _ cb => ln) (fun _ _ _ _ _ cb => (e_ty (b_list cb) m_list_ (a_cons (vv 1) an))))))

/-! _law_shut -/
abbrev s__law_shut : Stmt := topS 18
theorem sc__law_shut : FnScope ["rows", "row"] ["rows"] (defScope s__law_shut) := ⟨rfl, rfl, rfl, by decide +kernel, rfl, by decide +kernel, by decide +kernel⟩
def b__law_shut (cf : CF) : LS → SR :=
  (retS (biE (biD .tuple) (consA false (lcE [1] false (.nm 1) (itP (varE 0)) tyE (biE (biD .tuple) (consA false (biE (biD .sorted) (consA false (varE 1) nilA)) nilA))) nilA)))
def d__law_shut : BDef := ⟨1, 2, [], b__law_shut⟩
theorem k__law_shut (mono : Mono XR) {k fi : Nat} {f : Addr} {fd : FuncData} {cf cf' : CF} (F : Fun K "_law_shut" "_law_shut" s__law_shut f fd) (hcf : ∀ xs, cf' fi xs = runB d__law_shut.np d__law_shut.ns d__law_shut.io (d__law_shut.body cf) xs) (m_sorted_ : mg "sorted" = none) (m_tuple_ : mg "tuple" = none) :
    FnG Pr w K mg base (k + 1) f fd ["rows"] (spF K XR cf' fi d__law_shut.np d__law_shut.io) :=
  fn_step (mono := mono) F sc__law_shut rfl rfl (by decide) rfl hcf fun cdv A outer s H E c =>
    (z_one (z_ret (e_ty (b_tuple c) m_tuple_ (a_cons (e_lc c [("row", 1)] [1] (i_any c (vv 0)) (fun _ _ _ _ _ c => (g_nm c 1)) (fun _ _ _ _ _ cb => ln) (fun _ _ _ _ _ cb => (e_ty (b_tuple cb) m_tuple_ (a_cons (e_bi (b_sorted cb) m_sorted_ (a_cons (vv 1) an)) an)))) an))))

/-! _law_turn -/
abbrev s__law_turn : Stmt := topS 19
theorem sc__law_turn : FnScope ["rows", "a", "b"] ["rows", "a", "b"] (defScope s__law_turn) := ⟨rfl, rfl, rfl, by decide +kernel, rfl, by decide +kernel, by decide +kernel⟩
def b__law_turn (cf : CF) : LS → SR :=
  (ifS (tstE (op2E (cmpK .In) lvC false (varE 2) (op2E ixK lvB false (varE 0) (varE 1)))) (seqS (exS (mutE 0 false (mutG .remove) (snocP nilP (varE 1)) (consA false (varE 2) nilA)))
  (exS (mutE 0 false (mutG .append) (snocP nilP (varE 2)) (consA false (varE 1) nilA)))) (seqS (exS (mutE 0 false (mutG .remove) (snocP nilP (varE 2)) (consA false (varE 1) nilA)))
  (exS (mutE 0 false (mutG .append) (snocP nilP (varE 1)) (consA false (varE 2) nilA)))))
def d__law_turn : BDef := ⟨3, 3, [0], b__law_turn⟩
theorem k__law_turn (mono : Mono XR) {k fi : Nat} {f : Addr} {fd : FuncData} {cf cf' : CF} (F : Fun K "_law_turn" "_law_turn" s__law_turn f fd) (hcf : ∀ xs, cf' fi xs = runB d__law_turn.np d__law_turn.ns d__law_turn.io (d__law_turn.body cf) xs) :
    FnG Pr w K mg base (k + 1) f fd ["rows", "a", "b"] (spF K XR cf' fi d__law_turn.np d__law_turn.io) :=
  fn_step (mono := mono) F sc__law_turn rfl rfl (by decide) rfl hcf fun cdv A outer s H E c =>
    (z_one (z_if (t_cmp (q_in c) (vv 2) (e_ix c (vv 0) (vv 1))) (z_seq (z_ex (m_remove c false (p_ix c (pn 0) (vv 1)) (a_cons (vv 2) an)))
    (z_one (z_ex (m_append c false (p_ix c (pn 0) (vv 2)) (a_cons (vv 1) an))))) (z_seq (z_ex (m_remove c false (p_ix c (pn 0) (vv 2)) (a_cons (vv 1) an)))
    (z_one (z_ex (m_append c false (p_ix c (pn 0) (vv 1)) (a_cons (vv 2) an)))))))

/-! _law_kind -/
abbrev s__law_kind : Stmt := topS 20
theorem sc__law_kind : FnScope ["rows", "a", "b", "high", "low"] ["rows", "a", "b"] (defScope s__law_kind) := ⟨rfl, rfl, rfl, by decide +kernel, rfl, by decide +kernel, by decide +kernel⟩
def b__law_kind (cf : CF) : LS → SR :=
  (seqS (ifS (tstE (op2E (cmpK .Eq) lvC false (biE (biD .len) (consA false (op2E ixK lvB false (varE 0) (varE 1)) nilA)) (biE (biD .len) (consA false (op2E ixK lvB false (varE 0) (varE 2)) nilA)))) (retS (cE (.str "rise"))) nxtS)
  (seqS (asgS (.tp (.cons (.nm 3) (.cons (.nm 4) .nil))) (iteE (op2E (cmpK .In) lvC false (varE 2) (op2E ixK lvB false (varE 0) (varE 1))) (tupE (consA false (varE 1) (consA false (varE 2) nilA))) (tupE (consA false (varE 2) (consA false (varE 1) nilA)))))
  (retS (iteE (op2E (cmpK .Eq) lvC false (biE (biD .len) (consA false (op2E ixK lvB false (varE 0) (varE 3)) nilA)) (op2E (bopD .Add) lvB false (biE (biD .len) (consA false (op2E ixK lvB false (varE 0) (varE 4)) nilA)) (cE (.int 2)))) (cE (.str "fall")) (cE (.str "none"))))))
def d__law_kind : BDef := ⟨3, 5, [], b__law_kind⟩
theorem k__law_kind (mono : Mono XR) {k fi : Nat} {f : Addr} {fd : FuncData} {cf cf' : CF} (F : Fun K "_law_kind" "_law_kind" s__law_kind f fd) (hcf : ∀ xs, cf' fi xs = runB d__law_kind.np d__law_kind.ns d__law_kind.io (d__law_kind.body cf) xs) (m_len_ : mg "len" = none) :
    FnG Pr w K mg base (k + 1) f fd ["rows", "a", "b"] (spF K XR cf' fi d__law_kind.np d__law_kind.io) :=
  fn_step (mono := mono) F sc__law_kind rfl rfl (by decide) rfl hcf fun cdv A outer s H E c =>
    (z_seq (z_if (t_cmp (q_eq c) (e_bi (b_len c) m_len_ (a_cons (e_ix c (vv 0) (vv 1)) an)) (e_bi (b_len c) m_len_ (a_cons (e_ix c (vv 0) (vv 2)) an))) (z_one (z_ret k_str)) z_nil)
    (z_seq (s_asg (e_ite (t_cmp (q_in c) (vv 2) (e_ix c (vv 0) (vv 1))) (e_tup (a_cons (vv 1) (a_cons (vv 2) an))) (e_tup (a_cons (vv 2) (a_cons (vv 1) an)))) (g_tup c (g_cons (g_nm c 3) (g_cons (g_nm c 4) g_nil))))
    (z_one (z_ret (e_ite (t_cmp (q_eq c) (e_bi (b_len c) m_len_ (a_cons (e_ix c (vv 0) (vv 3)) an)) (e_op (o_add c) (e_bi (b_len c) m_len_ (a_cons (e_ix c (vv 0) (vv 4)) an)) k_int)) k_str k_str)))))

/-! _law_matches -/
abbrev s__law_matches : Stmt := topS 21
theorem sc__law_matches : FnScope ["n", "found", "a", "b"] ["n"] (defScope s__law_matches) := ⟨rfl, rfl, rfl, by decide +kernel, rfl, by decide +kernel, by decide +kernel⟩
def b__law_matches (cf : CF) : LS → SR :=
  (seqS (setS1 1 (lstE nilA))
  (seqS (forS (itR true (consA false (varE 0) nilA)) (.nm 2)
  (exS (mutE 1 false (mutG .extend) nilP (consA false (lcE [3] false (.nm 3) (itR false (consA false (op2E (bopD .Add) lvB false (varE 2) (cE (.int 1))) (consA false (varE 0) nilA))) tyE (tupE (consA false (varE 2) (consA false (varE 3) nilA)))) nilA))))
  (retS (takeE 1))))
def d__law_matches : BDef := ⟨1, 4, [], b__law_matches⟩
theorem k__law_matches (mono : Mono XR) {k fi : Nat} {f : Addr} {fd : FuncData} {cf cf' : CF} (F : Fun K "_law_matches" "_law_matches" s__law_matches f fd) (hcf : ∀ xs, cf' fi xs = runB d__law_matches.np d__law_matches.ns d__law_matches.io (d__law_matches.body cf) xs) (m_range_ : mg "range" = none) :
    FnG Pr w K mg base (k + 1) f fd ["n"] (spF K XR cf' fi d__law_matches.np d__law_matches.io) :=
  fn_step (mono := mono) F sc__law_matches rfl rfl (by decide) rfl hcf fun cdv A outer s H E c =>
    (z_seq (s_set c 1 (e_lst an))
    (z_seq (z_for c pass_def (i_rng1 c m_range_ (a_cons (vv 0) an)) (g_nm c 2)
    (z_one (z_ex (m_extend c false (pn 1) (a_cons (e_lc c [("b", 3)] [3] (i_rng2 c m_range_ (a_cons (e_op (o_add c) (vv 2) k_int) (a_cons (vv 0) an))) (fun _ _ _ _ _ c => (g_nm c 3)) (fun _ _ _ _ _ cb => ln) (fun _ _ _ _ _ cb => (e_tup (a_cons (vv 2) (a_cons (vv 3) an))))) an)))))
    (z_one (z_ret (tv 1)))))

/-! _law_league -/
abbrev s__law_league : Stmt := topS 22
theorem sc__law_league : FnScope ["jar", "n", "style", "order", "rows", "i", "j", "is_turned", "high", "low", "side"] ["jar", "n"] (defScope s__law_league) := ⟨rfl, rfl, rfl, by decide +kernel, rfl, by decide +kernel, by decide +kernel⟩
def b__law_league (cf : CF) : LS → SR :=
  (seqS (parS [2, 3, 4] (consA true (callEE cf 1 (slotC 0 (consC false (cE (.int 6)) nilC))) (consA false (callEE cf 2 (slotC 0 (consC false (lrE (varE 1)) nilC))) (consA false (lcE [10] false (.nm 10) (itR true (consA false (varE 1) nilA)) tyE (lstE nilA)) nilA))))
  (seqS (forS (itP (callEE cf 4 (consC false (varE 1) nilC))) (.tp (.cons (.nm 5) (.cons (.nm 6) .nil)))
  (seqS (parS [8, 9] (consA false (op2E ixK lvB false (varE 3) (varE 5)) (consA false (op2E ixK lvB false (varE 3) (varE 6)) nilA)))
  (seqS (setS1 7 (op2E (cmpK .Eq) lvC false (callEE cf 1 (slotC 0 (consC false (cE (.int 2)) nilC))) (cE (.int 0))))
  (seqS (ifS (tstE (op2E (cmpK .Lt) lvC false (varE 2) (cE (.int 2)))) (setS1 7 (andE (op2E (cmpK .Eq) lvC false (varE 2) (cE (.int 1))) (op2E (cmpK .Eq) lvC false (callEE cf 1 (slotC 0 (consC false (cE (.int 5)) nilC))) (cE (.int 0))))) (ifS (tstE (op2E (cmpK .Eq) lvC false (varE 2) (cE (.int 2)))) (setS1 7 (op2E (cmpK .Gt) lvC false (op2E (bopD .Sub) lvB false (varE 6) (varE 5)) (op2E (bopD .FloorDiv) lvB false (varE 1) (cE (.int 2))))) nxtS))
  (exS (mutE 4 false (mutG .append) (snocP nilP (iteE (varE 7) (varE 9) (varE 8))) (consA false (iteE (varE 7) (varE 8) (varE 9)) nilA)))))))
  (retS (callEE cf 3 (consC false (varE 4) nilC)))))
def d__law_league : BDef := ⟨2, 11, [0], b__law_league⟩
theorem k__law_league (mono : Mono XR) {k fi : Nat} {f : Addr} {fd : FuncData} {cf cf' : CF} (F : Fun K "_law_league" "_law_league" s__law_league f fd) (hcf : ∀ xs, cf' fi xs = runB d__law_league.np d__law_league.ns d__law_league.io (d__law_league.body cf) xs) (m_list_ : mg "list" = none) (m_range_ : mg "range" = none)
    (C__law_draw : ∀ (X : Cx) (Y : Yx), X.prog = Pr → X.w = w → X.K = K → X.mg = mg → X.base = base → Y.K = K → Y.XR = XR → Cal k X Y "_law_draw" cf 1 2 [0])
    (C__law_matches : ∀ (X : Cx) (Y : Yx), X.prog = Pr → X.w = w → X.K = K → X.mg = mg → X.base = base → Y.K = K → Y.XR = XR → Cal k X Y "_law_matches" cf 4 1 [])
    (C__law_mixed : ∀ (X : Cx) (Y : Yx), X.prog = Pr → X.w = w → X.K = K → X.mg = mg → X.base = base → Y.K = K → Y.XR = XR → Cal k X Y "_law_mixed" cf 2 2 [0])
    (C__law_shut : ∀ (X : Cx) (Y : Yx), X.prog = Pr → X.w = w → X.K = K → X.mg = mg → X.base = base → Y.K = K → Y.XR = XR → Cal k X Y "_law_shut" cf 3 1 []) :
    FnG Pr w K mg base (k + 1) f fd ["jar", "n"] (spF K XR cf' fi d__law_league.np d__law_league.io) :=
  fn_step (mono := mono) F sc__law_league rfl rfl (by decide) rfl hcf fun cdv A outer s H E c =>
    have C__law_draw := C__law_draw (cxOf (L2.CX Pr w) Pr w K mg base _ _ (defScope s__law_league) f cdv A outer s H E) (yOf K XR mono E) rfl rfl rfl rfl rfl rfl rfl
    have C__law_matches := C__law_matches (cxOf (L2.CX Pr w) Pr w K mg base _ _ (defScope s__law_league) f cdv A outer s H E) (yOf K XR mono E) rfl rfl rfl rfl rfl rfl rfl
    have C__law_mixed := C__law_mixed (cxOf (L2.CX Pr w) Pr w K mg base _ _ (defScope s__law_league) f cdv A outer s H E) (yOf K XR mono E) rfl rfl rfl rfl rfl rfl rfl
    have C__law_shut := C__law_shut (cxOf (L2.CX Pr w) Pr w K mg base _ _ (defScope s__law_league) f cdv A outer s H E) (yOf K XR mono E) rfl rfl rfl rfl rfl rfl rfl
    (z_seq (s_par3 c 2 3 4 (a_cons (e_call c C__law_draw (ac_slot 0 (ac_cons k_int acn))) (a_cons (e_call c C__law_mixed (ac_slot 0 (ac_cons (e_lr c m_list_ m_range_ (vv 1)) acn))) (a_cons (e_lc c [("side", 10)] [10] (i_rng1 c m_range_ (a_cons (vv 1) an)) (fun _ _ _ _ _ c => (g_nm c 10)) (fun _ _ _ _ _ cb => ln) (fun _ _ _ _ _ cb => (e_lst an))) an))))
    (z_seq (z_for c pass_def (i_any c (e_call c C__law_matches (ac_cons (vv 1) acn))) (g_tup c (g_cons (g_nm c 5) (g_cons (g_nm c 6) g_nil)))
    (z_seq (s_par c 8 9 (a_cons (e_ix c (vv 3) (vv 5)) (a_cons (e_ix c (vv 3) (vv 6)) an)))
    (z_seq (s_set c 7 (e_cmp (q_eq c) (e_call c C__law_draw (ac_slot 0 (ac_cons k_int acn))) k_int))
    (z_seq (z_if (t_cmp (q_lt c) (vv 2) k_int) (z_one (s_set c 7 (e_and (e_cmp (q_eq c) (vv 2) k_int) (e_one (e_cmp (q_eq c) (e_call c C__law_draw (ac_slot 0 (ac_cons k_int acn))) k_int))))) (z_one (z_if (t_cmp (q_eq c) (vv 2) k_int) (z_one (s_set c 7 (e_cmp (q_gt c) (e_op (o_sub c) (vv 6) (vv 5)) (e_op (o_fdiv c) (vv 1) k_int)))) z_nil)))
    (z_one (z_ex (m_append c false (p_ix c (pn 4) (e_ite (t_val (vv 7)) (vv 9) (vv 8))) (a_cons (e_ite (t_val (vv 7)) (vv 8) (vv 9)) an))))))))
    (z_one (z_ret (e_call c C__law_shut (ac_cons (vv 4) acn))))))

/-! _law_count -/
abbrev s__law_count : Stmt := topS 23
theorem sc__law_count : FnScope ["league", "n", "row"] ["league"] (defScope s__law_count) := ⟨rfl, rfl, rfl, by decide +kernel, rfl, by decide +kernel, by decide +kernel⟩
def b__law_count (cf : CF) : LS → SR :=
  (seqS (setS1 1 (biE (biD .len) (consA false (varE 0) nilA)))
  (retS (op2E (bopD .Sub) lvB false (op2E (bopD .FloorDiv) lvB false (op2E (bopD .Mult) lvB false (op2E (bopD .Mult) lvB false (varE 1) (op2E (bopD .Sub) lvB false (varE 1) (cE (.int 1)))) (op2E (bopD .Sub) lvB false (varE 1) (cE (.int 2)))) (cE (.int 6))) (biE (biD .sum) (consA false (lcE [2] false (.nm 2) (itP (varE 0)) tyE (op2E (bopD .FloorDiv) lvB false (op2E (bopD .Mult) lvB false (biE (biD .len) (consA false (varE 2) nilA)) (op2E (bopD .Sub) lvB false (biE (biD .len) (consA false (varE 2) nilA)) (cE (.int 1)))) (cE (.int 2)))) nilA)))))
def d__law_count : BDef := ⟨1, 3, [], b__law_count⟩
theorem k__law_count (mono : Mono XR) {k fi : Nat} {f : Addr} {fd : FuncData} {cf cf' : CF} (F : Fun K "_law_count" "_law_count" s__law_count f fd) (hcf : ∀ xs, cf' fi xs = runB d__law_count.np d__law_count.ns d__law_count.io (d__law_count.body cf) xs) (m_len_ : mg "len" = none) (m_sum_ : mg "sum" = none) :
    FnG Pr w K mg base (k + 1) f fd ["league"] (spF K XR cf' fi d__law_count.np d__law_count.io) :=
  fn_step (mono := mono) F sc__law_count rfl rfl (by decide) rfl hcf fun cdv A outer s H E c =>
    (z_seq (s_set c 1 (e_bi (b_len c) m_len_ (a_cons (vv 0) an)))
    (z_one (z_ret (e_op (o_sub c) (e_op (o_fdiv c) (e_op (o_mul c) (e_op (o_mul c) (vv 1) (e_op (o_sub c) (vv 1) k_int)) (e_op (o_sub c) (vv 1) k_int)) k_int) (e_bi (b_sum c) m_sum_ (a_cons (e_lc c [("row", 2)] [2] (i_any c (vv 0)) (fun _ _ _ _ _ c => (g_nm c 2)) (fun _ _ _ _ _ cb => ln) (fun _ _ _ _ _ cb => (e_op (o_fdiv cb) (e_op (o_mul cb) (e_bi (b_len cb) m_len_ (a_cons (vv 2) an)) (e_op (o_sub cb) (e_bi (b_len cb) m_len_ (a_cons (vv 2) an)) k_int)) k_int))) an))))))

/-! _law_sign -/
abbrev s__law_sign : Stmt := topS 24
theorem sc__law_sign : FnScope ["league", "upward", "a", "row", "b"] ["league"] (defScope s__law_sign) := ⟨rfl, rfl, rfl, by decide +kernel, rfl, by decide +kernel, by decide +kernel⟩
def b__law_sign (cf : CF) : LS → SR :=
  (seqS (setS1 1 (biE (biD .sum) (consA false (lcE [2, 3] false (.tp (.cons (.nm 2) (.cons (.nm 3) .nil))) (itEA (consA false (varE 0) nilA)) tyE (biE (biD .len) (consA false (lcE [4] false (.nm 4) (itP (varE 3)) (tstE (op2E (cmpK .Lt) lvC false (varE 4) (varE 2))) (varE 4)) nilA))) nilA)))
  (retS (op2E (bopD .Mod) lvB false (biE (biD .int) (consA false (op2E (bopD .Add) lvB false (varE 1) (callEE cf 18 (consC false (varE 0) nilC))) nilA)) (cE (.int 2)))))
def d__law_sign : BDef := ⟨1, 5, [], b__law_sign⟩
theorem k__law_sign (mono : Mono XR) {k fi : Nat} {f : Addr} {fd : FuncData} {cf cf' : CF} (F : Fun K "_law_sign" "_law_sign" s__law_sign f fd) (hcf : ∀ xs, cf' fi xs = runB d__law_sign.np d__law_sign.ns d__law_sign.io (d__law_sign.body cf) xs) (m_enumerate_ : mg "enumerate" = none) (m_int_ : mg "int" = none) (m_len_ : mg "len" = none) (m_sum_ : mg "sum" = none)
    (C__law_count : ∀ (X : Cx) (Y : Yx), X.prog = Pr → X.w = w → X.K = K → X.mg = mg → X.base = base → Y.K = K → Y.XR = XR → Cal k X Y "_law_count" cf 18 1 []) :
    FnG Pr w K mg base (k + 1) f fd ["league"] (spF K XR cf' fi d__law_sign.np d__law_sign.io) :=
  fn_step (mono := mono) F sc__law_sign rfl rfl (by decide) rfl hcf fun cdv A outer s H E c =>
    have C__law_count := C__law_count (cxOf (L2.CX Pr w) Pr w K mg base _ _ (defScope s__law_sign) f cdv A outer s H E) (yOf K XR mono E) rfl rfl rfl rfl rfl rfl rfl
    (z_seq (s_set c 1 (e_bi (b_sum c) m_sum_ (a_cons (e_lc c [("a", 2), ("row", 3)] [2, 3] (i_enumA c m_enumerate_ (a_cons (vv 0) an)) (fun _ _ _ _ _ c => (g_tup c (g_cons (g_nm c 2) (g_cons (g_nm c 3) g_nil)))) (fun _ _ _ _ _ cb => ln) (fun _ _ _ _ _ cb => (e_bi (b_len cb) m_len_ (a_cons (e_lc cb [("b", 4)] [4] (i_any cb (vv 3)) (fun _ _ _ _ _ c => (g_nm c 4)) (fun _ _ _ _ _ cb => (lo (t_cmp (q_lt cb) (vv 4) (vv 2)))) (fun _ _ _ _ _ cb => (vv 4))) an)))) an)))
    (z_one (z_ret (e_op (o_mod c) (e_ty (b_int c) m_int_ (a_cons (e_op (o_add c) (vv 1) (e_call c C__law_count (ac_cons (vv 0) acn))) an)) k_int))))

/-! _law_ranking -/
abbrev s__law_ranking : Stmt := topS 25
theorem sc__law_ranking : FnScope ["order", "rows", "place", "side"] ["order"] (defScope s__law_ranking) := ⟨rfl, rfl, rfl, by decide +kernel, rfl, by decide +kernel, by decide +kernel⟩
def b__law_ranking (cf : CF) : LS → SR :=
  (seqS (setS1 1 (lcE [3] false (.nm 3) (itP (varE 0)) tyE (lstE nilA)))
  (seqS (forS (itEA (consA false (varE 0) nilA)) (.tp (.cons (.nm 2) (.cons (.nm 3) .nil)))
  (exS (mutE 1 false (mutG .extend) (snocP nilP (varE 3)) (consA false (slE false (varE 0) (intO (op2E (bopD .Add) lvB false (varE 2) (cE (.int 1)))) noO) nilA))))
  (retS (callEE cf 3 (consC false (varE 1) nilC)))))
def d__law_ranking : BDef := ⟨1, 4, [], b__law_ranking⟩
theorem k__law_ranking (mono : Mono XR) {k fi : Nat} {f : Addr} {fd : FuncData} {cf cf' : CF} (F : Fun K "_law_ranking" "_law_ranking" s__law_ranking f fd) (hcf : ∀ xs, cf' fi xs = runB d__law_ranking.np d__law_ranking.ns d__law_ranking.io (d__law_ranking.body cf) xs) (m_enumerate_ : mg "enumerate" = none)
    (C__law_shut : ∀ (X : Cx) (Y : Yx), X.prog = Pr → X.w = w → X.K = K → X.mg = mg → X.base = base → Y.K = K → Y.XR = XR → Cal k X Y "_law_shut" cf 3 1 []) :
    FnG Pr w K mg base (k + 1) f fd ["order"] (spF K XR cf' fi d__law_ranking.np d__law_ranking.io) :=
  fn_step (mono := mono) F sc__law_ranking rfl rfl (by decide) rfl hcf fun cdv A outer s H E c =>
    have C__law_shut := C__law_shut (cxOf (L2.CX Pr w) Pr w K mg base _ _ (defScope s__law_ranking) f cdv A outer s H E) (yOf K XR mono E) rfl rfl rfl rfl rfl rfl rfl
    (z_seq (z_lc c 1 [("side", 3)] [3] (i_any c (vv 0)) (fun _ _ _ _ _ c => (g_nm c 3)) (fun _ _ _ _ _ cb => ln) (fun _ _ _ _ _ cb => (e_lst an)))
    (z_seq (z_for c pass_def (i_enumA c m_enumerate_ (a_cons (vv 0) an)) (g_tup c (g_cons (g_nm c 2) (g_cons (g_nm c 3) g_nil)))
    (z_one (z_ex (m_extend c false (p_ix c (pn 1) (vv 3)) (a_cons (e_sl c (vv 0) (o_some (e_op (o_add c) (vv 2) k_int)) on) an)))))
    (z_one (z_ret (e_call c C__law_shut (ac_cons (vv 1) acn))))))

/-! _law_walk -/
abbrev s__law_walk : Stmt := topS 26
theorem sc__law_walk : FnScope ["jar", "league", "most", "step", "rows", "found", "matches", "open_ones", "match"] ["jar", "league", "most"] (defScope s__law_walk) := ⟨rfl, rfl, rfl, by decide +kernel, rfl, by decide +kernel, by decide +kernel⟩
def b__law_walk (cf : CF) : LS → SR :=
  (seqS (asgS (.tp (.cons (.nm 4) (.cons (.nm 5) (.cons (.nm 6) .nil)))) (tupE (consA false (callEE cf 7 (consC false (varE 1) nilC)) (consA false (lstE nilA) (consA false (callEE cf 4 (consC false (biE (biD .len) (consA false (varE 1) nilA)) nilC)) nilA)))))
  (seqS (forS (itR true (consA false (callEE cf 1 (slotC 0 (consC false (op2E (bopD .Add) lvB false (varE 2) (cE (.int 1))) nilC))) nilA)) (.nm 3)
  (seqS (setS1 7 (frzE (lcE [8] false (.nm 8) (itP (varE 6)) (tstE (op2E (cmpK .NotEq) lvC false (callEE cf 20 (consC false (varE 4) (consC false (op2E ixK lvB false (varE 8) (cE (.int 0))) (consC false (op2E ixK lvB false (varE 8) (cE (.int 1))) nilC)))) (cE (.str "none")))) (varE 8))))
  (ifS (tstE (op2E (cmpK .NotEq) lvC false (varE 7) (lstE nilA))) (seqS (exS (mutE 5 false (mutG .append) nilP (consA false (callEE cf 6 (slotC 0 (consC false (varE 7) nilC))) nilA)))
  (exS (callEE cf 8 (slotC 4 (consC false (op2E ixK lvB false (op2E ixK lvB false (varE 5) (negE (cE (.int 1)))) (cE (.int 0))) (consC false (op2E ixK lvB false (op2E ixK lvB false (varE 5) (negE (cE (.int 1)))) (cE (.int 1))) nilC)))))) nxtS)))
  (retS (tupE (consA false (biE (biD .tuple) (consA false (varE 5) nilA)) (consA false (callEE cf 3 (consC false (varE 4) nilC)) nilA))))))
def d__law_walk : BDef := ⟨3, 9, [0], b__law_walk⟩
theorem k__law_walk (mono : Mono XR) {k fi : Nat} {f : Addr} {fd : FuncData} {cf cf' : CF} (F : Fun K "_law_walk" "_law_walk" s__law_walk f fd) (hcf : ∀ xs, cf' fi xs = runB d__law_walk.np d__law_walk.ns d__law_walk.io (d__law_walk.body cf) xs) (m_len_ : mg "len" = none) (m_range_ : mg "range" = none) (m_tuple_ : mg "tuple" = none)
    (C__law_draw : ∀ (X : Cx) (Y : Yx), X.prog = Pr → X.w = w → X.K = K → X.mg = mg → X.base = base → Y.K = K → Y.XR = XR → Cal k X Y "_law_draw" cf 1 2 [0])
    (C__law_kind : ∀ (X : Cx) (Y : Yx), X.prog = Pr → X.w = w → X.K = K → X.mg = mg → X.base = base → Y.K = K → Y.XR = XR → Cal k X Y "_law_kind" cf 20 3 [])
    (C__law_matches : ∀ (X : Cx) (Y : Yx), X.prog = Pr → X.w = w → X.K = K → X.mg = mg → X.base = base → Y.K = K → Y.XR = XR → Cal k X Y "_law_matches" cf 4 1 [])
    (C__law_pick : ∀ (X : Cx) (Y : Yx), X.prog = Pr → X.w = w → X.K = K → X.mg = mg → X.base = base → Y.K = K → Y.XR = XR → Cal k X Y "_law_pick" cf 6 2 [0])
    (C__law_rows : ∀ (X : Cx) (Y : Yx), X.prog = Pr → X.w = w → X.K = K → X.mg = mg → X.base = base → Y.K = K → Y.XR = XR → Cal k X Y "_law_rows" cf 7 1 [])
    (C__law_shut : ∀ (X : Cx) (Y : Yx), X.prog = Pr → X.w = w → X.K = K → X.mg = mg → X.base = base → Y.K = K → Y.XR = XR → Cal k X Y "_law_shut" cf 3 1 [])
    (C__law_turn : ∀ (X : Cx) (Y : Yx), X.prog = Pr → X.w = w → X.K = K → X.mg = mg → X.base = base → Y.K = K → Y.XR = XR → Cal k X Y "_law_turn" cf 8 3 [0]) :
    FnG Pr w K mg base (k + 1) f fd ["jar", "league", "most"] (spF K XR cf' fi d__law_walk.np d__law_walk.io) :=
  fn_step (mono := mono) F sc__law_walk rfl rfl (by decide) rfl hcf fun cdv A outer s H E c =>
    have C__law_draw := C__law_draw (cxOf (L2.CX Pr w) Pr w K mg base _ _ (defScope s__law_walk) f cdv A outer s H E) (yOf K XR mono E) rfl rfl rfl rfl rfl rfl rfl
    have C__law_kind := C__law_kind (cxOf (L2.CX Pr w) Pr w K mg base _ _ (defScope s__law_walk) f cdv A outer s H E) (yOf K XR mono E) rfl rfl rfl rfl rfl rfl rfl
    have C__law_matches := C__law_matches (cxOf (L2.CX Pr w) Pr w K mg base _ _ (defScope s__law_walk) f cdv A outer s H E) (yOf K XR mono E) rfl rfl rfl rfl rfl rfl rfl
    have C__law_pick := C__law_pick (cxOf (L2.CX Pr w) Pr w K mg base _ _ (defScope s__law_walk) f cdv A outer s H E) (yOf K XR mono E) rfl rfl rfl rfl rfl rfl rfl
    have C__law_rows := C__law_rows (cxOf (L2.CX Pr w) Pr w K mg base _ _ (defScope s__law_walk) f cdv A outer s H E) (yOf K XR mono E) rfl rfl rfl rfl rfl rfl rfl
    have C__law_shut := C__law_shut (cxOf (L2.CX Pr w) Pr w K mg base _ _ (defScope s__law_walk) f cdv A outer s H E) (yOf K XR mono E) rfl rfl rfl rfl rfl rfl rfl
    have C__law_turn := C__law_turn (cxOf (L2.CX Pr w) Pr w K mg base _ _ (defScope s__law_walk) f cdv A outer s H E) (yOf K XR mono E) rfl rfl rfl rfl rfl rfl rfl
    (z_seq (s_asg (e_tup (a_cons (e_call c C__law_rows (ac_cons (vv 1) acn)) (a_cons (e_lst an) (a_cons (e_call c C__law_matches (ac_cons (e_bi (b_len c) m_len_ (a_cons (vv 1) an)) acn)) an)))) (g_tup c (g_cons (g_nm c 4) (g_cons (g_nm c 5) (g_cons (g_nm c 6) g_nil)))))
    (z_seq (z_for c pass_def (i_rng1 c m_range_ (a_cons (e_call c C__law_draw (ac_slot 0 (ac_cons (e_op (o_add c) (vv 2) k_int) acn))) an)) (g_nm c 3)
    (z_seq (z_lcf c 7 [("match", 8)] [8] (i_any c (vv 6)) (fun _ _ _ _ _ c => (g_nm c 8)) (fun _ _ _ _ _ cb => (lo (t_cmp (q_ne cb) (e_call cb (C__law_kind.blk ..) (ac_cons (vv 4) (ac_cons (e_ix cb (vv 8) k_int) (ac_cons (e_ix cb (vv 8) k_int) acn)))) k_str))) (fun _ _ _ _ _ cb => (vv 8)))
    (z_one (z_if (t_cmp (q_ne c) (vv 7) (e_lst an)) (z_seq (z_ex (m_append c false (pn 5) (a_cons (e_call c C__law_pick (ac_slot 0 (ac_cons (vv 7) acn))) an)))
    (z_one (z_ex (e_call c C__law_turn (ac_slot 4 (ac_cons (e_ix c (e_ix c (vv 5) (e_neg k_int)) k_int) (ac_cons (e_ix c (e_ix c (vv 5) (e_neg k_int)) k_int) acn))))))) z_nil))))
    (z_one (z_ret (e_tup (a_cons (e_ty (b_tuple c) m_tuple_ (a_cons (vv 5) an)) (a_cons (e_call c C__law_shut (ac_cons (vv 4) acn)) an)))))))

/-! _law_odd_pairs -/
abbrev s__law_odd_pairs : Stmt := topS 27
theorem sc__law_odd_pairs : FnScope ["order", "found", "place", "side", "own"] ["order"] (defScope s__law_odd_pairs) := ⟨rfl, rfl, rfl, by decide +kernel, rfl, by decide +kernel, by decide +kernel⟩
def b__law_odd_pairs (cf : CF) : LS → SR :=
  (seqS (setS1 1 (cE (.int 0)))
  (seqS (forS (itEA (consA false (varE 0) nilA)) (.tp (.cons (.nm 2) (.cons (.nm 3) .nil)))
  (setS1 1 (op2E (bopD .Add) lvB false (varE 1) (biE (biD .len) (consA false (lcE [4] false (.nm 4) (itP (slE false (varE 0) (intO (op2E (bopD .Add) lvB false (varE 2) (cE (.int 1)))) noO)) (tstE (op2E (cmpK .Lt) lvC false (varE 4) (varE 3))) (varE 4)) nilA)))))
  (retS (op2E (bopD .Mod) lvB false (biE (biD .int) (consA false (varE 1) nilA)) (cE (.int 2))))))
def d__law_odd_pairs : BDef := ⟨1, 5, [], b__law_odd_pairs⟩
theorem k__law_odd_pairs (mono : Mono XR) {k fi : Nat} {f : Addr} {fd : FuncData} {cf cf' : CF} (F : Fun K "_law_odd_pairs" "_law_odd_pairs" s__law_odd_pairs f fd) (hcf : ∀ xs, cf' fi xs = runB d__law_odd_pairs.np d__law_odd_pairs.ns d__law_odd_pairs.io (d__law_odd_pairs.body cf) xs) (m_enumerate_ : mg "enumerate" = none) (m_int_ : mg "int" = none) (m_len_ : mg "len" = none) :
    FnG Pr w K mg base (k + 1) f fd ["order"] (spF K XR cf' fi d__law_odd_pairs.np d__law_odd_pairs.io) :=
  fn_step (mono := mono) F sc__law_odd_pairs rfl rfl (by decide) rfl hcf fun cdv A outer s H E c =>
    (z_seq (s_set c 1 k_int)
    (z_seq (z_for c pass_def (i_enumA c m_enumerate_ (a_cons (vv 0) an)) (g_tup c (g_cons (g_nm c 2) (g_cons (g_nm c 3) g_nil)))
    (z_one (s_set c 1 (e_op (o_add c) (vv 1) (e_bi (b_len c) m_len_ (a_cons (e_lc c [("own", 4)] [4] (i_any c (e_sl c (vv 0) (o_some (e_op (o_add c) (vv 2) k_int)) on)) (fun _ _ _ _ _ c => (g_nm c 4)) (fun _ _ _ _ _ cb => (lo (t_cmp (q_lt cb) (vv 4) (vv 3)))) (fun _ _ _ _ _ cb => (vv 4))) an))))))
    (z_one (z_ret (e_op (o_mod c) (e_ty (b_int c) m_int_ (a_cons (vv 1) an)) k_int)))))

/-! law -/
abbrev s_law : Stmt := topS 28
theorem sc_law : FnScope ["script", "jar", "turn", "n", "found", "other", "league", "order", "kept", "due", "odd"] ["script"] (defScope s_law) := ⟨rfl, rfl, rfl, by decide +kernel, rfl, by decide +kernel, by decide +kernel⟩
def b_law (cf : CF) : LS → SR :=
  (seqS (setS1 1 (callEE cf 0 (consC false (varE 0) nilC)))
  (seqS (forS (itR true (consA false (cE (.int 7)) nilA)) (.nm 2)
  (seqS (setS1 3 (op2E (bopD .Add) lvB true (cE (.int 1)) (callEE cf 1 (slotC 1 (consC false (cE (.int 8)) nilC)))))
  (seqS (parS [6, 7] (consA true (callEE cf 5 (slotC 1 (consC false (varE 3) nilC))) (consA false (biE (biD .tuple) (consA false (callEE cf 2 (slotC 1 (consC false (lrE (varE 3)) nilC))) nilA)) nilA)))
  (seqS (parS [8, 9, 10] (consA false (biE (biD .repr) (consA false (lstE (consA false (varE 6) (consA false (varE 7) nilA))) nilA)) (consA false (callEE cf 21 (consC false (varE 6) nilC)) (consA false (callEE cf 28 (consC false (varE 7) nilC)) nilA))))
  (seqS (setS1 4 (lstE (consA false (iteE (op2E (cmpK .Eq) lvC false (varE 2) (cE (.int 1))) (callEE cf 16 (consC false (varE 6) nilC)) (callEE cf 16 (consC false (varE 6) nilC))) (consA false (callEE cf 16 (consC false (varE 6) nilC)) nilA))))
  (seqS (setS1 4 (op2E (bopD .Add) lvB false (varE 4) (lstE (consA false (iteE (op2E (cmpK .Eq) lvC false (varE 2) (cE (.int 2))) (callEE cf 27 (consC false (varE 7) nilC)) (callEE cf 27 (consC false (varE 7) nilC))) (consA false (callEE cf 16 (consC false (callEE cf 24 (consC false (varE 7) nilC)) nilC)) nilA)))))
  (seqS (ifS (tstE (orE (op2E (cmpK .NotEq) lvC false (biE (biD .repr) (consA false (varE 4) nilA)) (biE (biD .repr) (consA false (lstE (consA false (varE 9) (consA false (varE 9) (consA false (varE 10) (consA false (varE 10) nilA))))) nilA))) (op2E (cmpK .NotEq) lvC false (biE (biD .repr) (consA false (callEE cf 16 (consC false (callEE cf 22 (consC false (varE 7) nilC)) nilC)) nilA)) (biE (biD .repr) (consA false (varE 10) nilA))))) (retS (cE (.bool false))) nxtS)
  (seqS (ifS (tstE (op2E (cmpK .NotEq) lvC false (biE (biD .repr) (consA false (callEE cf 16 (consC false (callEE cf 26 (consC false (varE 6) (consC false (varE 7) nilC))) nilC)) nilA)) (biE (biD .repr) (consA false (op2E (bopD .Mod) lvB false (biE (biD .int) (consA false (op2E (bopD .Add) lvB false (varE 9) (varE 10)) nilA)) (cE (.int 2))) nilA)))) (retS (cE (.bool false))) nxtS)
  (seqS (setS1 5 (op2E ixK lvB false (callEE cf 23 (slotC 1 (consC false (varE 6) (consC false (cE (.int 6)) nilC)))) (cE (.int 1))))
  (ifS (tstE (orE (op2E (cmpK .NotEq) lvC false (biE (biD .repr) (consA false (callEE cf 16 (consC false (varE 5) nilC)) nilA)) (biE (biD .repr) (consA false (varE 9) nilA))) (orE (op2E (cmpK .NotEq) lvC false (callEE cf 21 (consC false (varE 5) nilC)) (varE 9)) (op2E (cmpK .NotEq) lvC false (biE (biD .repr) (consA false (lstE (consA false (varE 6) (consA false (varE 7) nilA))) nilA)) (varE 8))))) (retS (cE (.bool false))) nxtS))))))))))
  (retS (cE (.bool true)))))
def d_law : BDef := ⟨1, 11, [], b_law⟩
theorem k_law (mono : Mono XR) {k fi : Nat} {f : Addr} {fd : FuncData} {cf cf' : CF} (F : Fun K "law" "law" s_law f fd) (hcf : ∀ xs, cf' fi xs = runB d_law.np d_law.ns d_law.io (d_law.body cf) xs) (m_int_ : mg "int" = none) (m_list_ : mg "list" = none) (m_range_ : mg "range" = none) (m_repr_ : mg "repr" = none) (m_tuple_ : mg "tuple" = none)
    (C__law_draw : ∀ (X : Cx) (Y : Yx), X.prog = Pr → X.w = w → X.K = K → X.mg = mg → X.base = base → Y.K = K → Y.XR = XR → Cal k X Y "_law_draw" cf 1 2 [0])
    (C__law_jar : ∀ (X : Cx) (Y : Yx), X.prog = Pr → X.w = w → X.K = K → X.mg = mg → X.base = base → Y.K = K → Y.XR = XR → Cal k X Y "_law_jar" cf 0 1 [])
    (C__law_league : ∀ (X : Cx) (Y : Yx), X.prog = Pr → X.w = w → X.K = K → X.mg = mg → X.base = base → Y.K = K → Y.XR = XR → Cal k X Y "_law_league" cf 5 2 [0])
    (C__law_mixed : ∀ (X : Cx) (Y : Yx), X.prog = Pr → X.w = w → X.K = K → X.mg = mg → X.base = base → Y.K = K → Y.XR = XR → Cal k X Y "_law_mixed" cf 2 2 [0])
    (C__law_odd_pairs : ∀ (X : Cx) (Y : Yx), X.prog = Pr → X.w = w → X.K = K → X.mg = mg → X.base = base → Y.K = K → Y.XR = XR → Cal k X Y "_law_odd_pairs" cf 28 1 [])
    (C__law_ranking : ∀ (X : Cx) (Y : Yx), X.prog = Pr → X.w = w → X.K = K → X.mg = mg → X.base = base → Y.K = K → Y.XR = XR → Cal k X Y "_law_ranking" cf 22 1 [])
    (C__law_sign : ∀ (X : Cx) (Y : Yx), X.prog = Pr → X.w = w → X.K = K → X.mg = mg → X.base = base → Y.K = K → Y.XR = XR → Cal k X Y "_law_sign" cf 21 1 [])
    (C__law_walk : ∀ (X : Cx) (Y : Yx), X.prog = Pr → X.w = w → X.K = K → X.mg = mg → X.base = base → Y.K = K → Y.XR = XR → Cal k X Y "_law_walk" cf 23 3 [0])
    (C_order_sign : ∀ (X : Cx) (Y : Yx), X.prog = Pr → X.w = w → X.K = K → X.mg = mg → X.base = base → Y.K = K → Y.XR = XR → Cal k X Y "order_sign" cf 27 1 [])
    (C_ranking : ∀ (X : Cx) (Y : Yx), X.prog = Pr → X.w = w → X.K = K → X.mg = mg → X.base = base → Y.K = K → Y.XR = XR → Cal k X Y "ranking" cf 24 1 [])
    (C_renamed : ∀ (X : Cx) (Y : Yx), X.prog = Pr → X.w = w → X.K = K → X.mg = mg → X.base = base → Y.K = K → Y.XR = XR → Cal k X Y "renamed" cf 26 2 [])
    (C_sign : ∀ (X : Cx) (Y : Yx), X.prog = Pr → X.w = w → X.K = K → X.mg = mg → X.base = base → Y.K = K → Y.XR = XR → Cal k X Y "sign" cf 16 1 [])
    (K_order_sign : ∀ (X : Cx) (Y : Yx), X.prog = Pr → X.w = w → X.K = K → X.mg = mg → X.base = base → Y.K = K → Y.XR = XR → CalK k X Y "order_sign" ["order"] cf 27 1 [])
    (K_sign : ∀ (X : Cx) (Y : Yx), X.prog = Pr → X.w = w → X.K = K → X.mg = mg → X.base = base → Y.K = K → Y.XR = XR → CalK k X Y "sign" ["league"] cf 16 1 []) :
    FnG Pr w K mg base (k + 1) f fd ["script"] (spF K XR cf' fi d_law.np d_law.io) :=
  fn_step (mono := mono) F sc_law rfl rfl (by decide) rfl hcf fun cdv A outer s H E c =>
    have C__law_draw := C__law_draw (cxOf (L2.CX Pr w) Pr w K mg base _ _ (defScope s_law) f cdv A outer s H E) (yOf K XR mono E) rfl rfl rfl rfl rfl rfl rfl
    have C__law_jar := C__law_jar (cxOf (L2.CX Pr w) Pr w K mg base _ _ (defScope s_law) f cdv A outer s H E) (yOf K XR mono E) rfl rfl rfl rfl rfl rfl rfl
    have C__law_league := C__law_league (cxOf (L2.CX Pr w) Pr w K mg base _ _ (defScope s_law) f cdv A outer s H E) (yOf K XR mono E) rfl rfl rfl rfl rfl rfl rfl
    have C__law_mixed := C__law_mixed (cxOf (L2.CX Pr w) Pr w K mg base _ _ (defScope s_law) f cdv A outer s H E) (yOf K XR mono E) rfl rfl rfl rfl rfl rfl rfl
    have C__law_odd_pairs := C__law_odd_pairs (cxOf (L2.CX Pr w) Pr w K mg base _ _ (defScope s_law) f cdv A outer s H E) (yOf K XR mono E) rfl rfl rfl rfl rfl rfl rfl
    have C__law_ranking := C__law_ranking (cxOf (L2.CX Pr w) Pr w K mg base _ _ (defScope s_law) f cdv A outer s H E) (yOf K XR mono E) rfl rfl rfl rfl rfl rfl rfl
    have C__law_sign := C__law_sign (cxOf (L2.CX Pr w) Pr w K mg base _ _ (defScope s_law) f cdv A outer s H E) (yOf K XR mono E) rfl rfl rfl rfl rfl rfl rfl
    have C__law_walk := C__law_walk (cxOf (L2.CX Pr w) Pr w K mg base _ _ (defScope s_law) f cdv A outer s H E) (yOf K XR mono E) rfl rfl rfl rfl rfl rfl rfl
    have C_order_sign := C_order_sign (cxOf (L2.CX Pr w) Pr w K mg base _ _ (defScope s_law) f cdv A outer s H E) (yOf K XR mono E) rfl rfl rfl rfl rfl rfl rfl
    have C_ranking := C_ranking (cxOf (L2.CX Pr w) Pr w K mg base _ _ (defScope s_law) f cdv A outer s H E) (yOf K XR mono E) rfl rfl rfl rfl rfl rfl rfl
    have C_renamed := C_renamed (cxOf (L2.CX Pr w) Pr w K mg base _ _ (defScope s_law) f cdv A outer s H E) (yOf K XR mono E) rfl rfl rfl rfl rfl rfl rfl
    have C_sign := C_sign (cxOf (L2.CX Pr w) Pr w K mg base _ _ (defScope s_law) f cdv A outer s H E) (yOf K XR mono E) rfl rfl rfl rfl rfl rfl rfl
    have K_order_sign := K_order_sign (cxOf (L2.CX Pr w) Pr w K mg base _ _ (defScope s_law) f cdv A outer s H E) (yOf K XR mono E) rfl rfl rfl rfl rfl rfl rfl
    have K_sign := K_sign (cxOf (L2.CX Pr w) Pr w K mg base _ _ (defScope s_law) f cdv A outer s H E) (yOf K XR mono E) rfl rfl rfl rfl rfl rfl rfl
    (z_seq (s_set c 1 (e_call c C__law_jar (ac_cons (vv 0) acn)))
    (z_seq (z_for c pass_def (i_rng1 c m_range_ (a_cons k_int an)) (g_nm c 2)
    (z_seq (s_set c 3 (e_op (o_add c) k_int (e_call c C__law_draw (ac_slot 1 (ac_cons k_int acn)))))
    (z_seq (s_par c 6 7 (a_cons (e_call c C__law_league (ac_slot 1 (ac_cons (vv 3) acn))) (a_cons (e_ty (b_tuple c) m_tuple_ (a_cons (e_call c C__law_mixed (ac_slot 1 (ac_cons (e_lr c m_list_ m_range_ (vv 3)) acn))) an)) an)))
    (z_seq (s_par3 c 8 9 10 (a_cons (e_bi (b_repr c) m_repr_ (a_cons (e_lst (a_cons (vv 6) (a_cons (vv 7) an))) an)) (a_cons (e_call c C__law_sign (ac_cons (vv 6) acn)) (a_cons (e_call c C__law_odd_pairs (ac_cons (vv 7) acn)) an))))
    (z_seq (s_set c 4 (e_lst (a_cons (e_ite (t_cmp (q_eq c) (vv 2) k_int) (e_callK c K_sign (kc (vv 6) kn)) (e_call c C_sign (ac_cons (vv 6) acn))) (a_cons (e_call c C_sign (ac_cons (vv 6) acn)) an))))
    (z_seq (s_set c 4 (e_op (o_add c) (vv 4) (e_lst (a_cons (e_ite (t_cmp (q_eq c) (vv 2) k_int) (e_callK c K_order_sign (kc (vv 7) kn)) (e_call c C_order_sign (ac_cons (vv 7) acn))) (a_cons (e_call c C_sign (ac_cons (e_call c C_ranking (ac_cons (vv 7) acn)) acn)) an)))))
    (z_seq (z_if (t_w (w_or (t_cmp (q_ne c) (e_bi (b_repr c) m_repr_ (a_cons (vv 4) an)) (e_bi (b_repr c) m_repr_ (a_cons (e_lst (a_cons (vv 9) (a_cons (vv 9) (a_cons (vv 10) (a_cons (vv 10) an))))) an))) (w_or1 (t_cmp (q_ne c) (e_bi (b_repr c) m_repr_ (a_cons (e_call c C_sign (ac_cons (e_call c C__law_ranking (ac_cons (vv 7) acn)) acn)) an)) (e_bi (b_repr c) m_repr_ (a_cons (vv 10) an)))))) (z_one (z_ret k_bool)) z_nil)
    (z_seq (z_if (t_cmp (q_ne c) (e_bi (b_repr c) m_repr_ (a_cons (e_call c C_sign (ac_cons (e_call c C_renamed (ac_cons (vv 6) (ac_cons (vv 7) acn))) acn)) an)) (e_bi (b_repr c) m_repr_ (a_cons (e_op (o_mod c) (e_ty (b_int c) m_int_ (a_cons (e_op (o_add c) (vv 9) (vv 10)) an)) k_int) an))) (z_one (z_ret k_bool)) z_nil)
    (z_seq (s_set c 5 (e_ix c (e_call c C__law_walk (ac_slot 1 (ac_cons (vv 6) (ac_cons k_int acn)))) k_int))
    (z_one (z_if (t_w (w_or (t_cmp (q_ne c) (e_bi (b_repr c) m_repr_ (a_cons (e_call c C_sign (ac_cons (vv 5) acn)) an)) (e_bi (b_repr c) m_repr_ (a_cons (vv 9) an))) (w_or (t_cmp (q_ne c) (e_call c C__law_sign (ac_cons (vv 5) acn)) (vv 9)) (w_or1 (t_cmp (q_ne c) (e_bi (b_repr c) m_repr_ (a_cons (e_lst (a_cons (vv 6) (a_cons (vv 7) an))) an)) (vv 8)))))) (z_one (z_ret k_bool)) z_nil)))))))))))
    (z_one (z_ret k_bool))))

def noD : BDef := ⟨0, 0, [], fun _ _ => .stuck⟩
def P : List BDef := [d__law_jar, d__law_draw, d__law_mixed, d__law_shut, d__law_matches, d__law_league, d__law_pick, d__law_rows, d__law_turn, noD, noD, d_beat, d_wins, noD, d_ring_count, noD, d_sign, noD, d__law_count, noD, d__law_kind, d__law_sign, d__law_ranking, d__law_walk, d_ranking, d_renamed_row, d_renamed, d_order_sign, d__law_odd_pairs, d_law]
end
end Law
namespace Law
open PySem PySem.Spec PyProof.Rows L2 MP TL JM
local macro_rules | `(tactic| and_intros) => `(tactic| repeat' (first
  | with_reducible exact MP.ev_c | with_reducible exact MP.ev_nilA | with_reducible exact MP.ev_nilC | with_reducible exact MP.ev_nilP | with_reducible exact MP.ev_noO | with_reducible exact MP.ev_ty | with_reducible exact MP.st_nxt
  | ((with_reducible apply MP.ev_v); exact rfl; first | exact MP.rv_imm | exact MP.rv_ref | exact MP.rv_nil | exact MP.rv_lst)
  | with_reducible exact MP.nf | with_reducible exact MP.nl_imm
  | with_reducible exact MP.dat_imm | with_reducible exact MP.dat_lent | with_reducible exact MP.dat_nil | with_reducible exact MP.dat_lst _
  | ((with_reducible apply MP.dat_ref2); exact rfl)
  | with_reducible exact MP.datsOf_nil | with_reducible apply MP.datsOf_cons
  | with_reducible exact MP.lvC_dat | with_reducible exact MP.lvB_int | with_reducible exact MP.lvB_bool | with_reducible exact MP.lvB_immd | with_reducible exact MP.rk_int | with_reducible exact MP.rk_bool | with_reducible exact MP.rk_str | with_reducible exact MP.rk_imm | with_reducible exact MP.rk_nl
  | with_reducible exact MP.add_int _ _ | with_reducible exact MP.sub_int _ _ | with_reducible exact MP.lt_int _ _ | with_reducible exact MP.gt_int _ _ | with_reducible exact MP.ge_int _ _ | with_reducible exact MP.le_int _ _ | with_reducible exact MP.eq_int _ _ | with_reducible exact MP.ne_int _ _
  | with_reducible apply MP.mul_int | with_reducible apply MP.mod_int | with_reducible apply MP.fdiv_int | ((with_reducible apply MP.rd_key2); exact rfl; exact rfl; exact rfl)
  | with_reducible exact MP.len_lst | with_reducible exact MP.len_tup | with_reducible exact MP.len_scr | with_reducible exact MP.len_scrD | with_reducible exact MP.int_int | with_reducible exact MP.tup_lst | with_reducible exact MP.lst_lst | with_reducible exact MP.lst_tup
  | with_reducible exact MP.mk_imm2 | with_reducible exact MP.mk_imm3 | with_reducible exact MP.mk_nil | with_reducible exact MP.len0 | with_reducible exact MP.len1 | with_reducible exact MP.len2 | with_reducible exact MP.len3
  | with_reducible apply MP.ev_op | with_reducible apply MP.ev_bi | with_reducible apply MP.ev_tup | with_reducible apply MP.ev_lst | with_reducible apply MP.ev_consA | with_reducible apply MP.ev_consC
  | with_reducible apply MP.ev_neg | with_reducible apply MP.ev_tst | with_reducible apply MP.ev_not | with_reducible apply MP.ev_snocP | with_reducible apply MP.ev_intO
  | with_reducible apply MP.st_set2 | with_reducible apply MP.st_par2 | with_reducible apply MP.st_asg2 | with_reducible exact MP.nlAll_nil | with_reducible apply MP.nlAll_cons | with_reducible exact MP.nl_lst _
  | with_reducible apply MP.st_ret | with_reducible apply MP.st_ex
  | with_reducible exact MP.argsOf_nil | with_reducible apply MP.argsOf_dat
  | with_reducible assumption
  | ((with_reducible show _ < List.length _); exact MP.ltl) | ((with_reducible show MP.LV.nl _ = true); exact rfl) | ((with_reducible show MP.LS.mk _ _ = _); exact rfl) | ((with_reducible show MP.parL _ _ _ = _); exact rfl) | ((with_reducible show MP.bindT _ _ _ = _); exact rfl)
  | ((with_reducible show (0 : Int) < _); decide) | ((with_reducible show Nat.log2 _ < 9000); decide)))
/-! the jar -/
structure Jar where
  far : List Int
  cells : List Int
  sea : Int
  cnt : Int
def il (xs : List Int) : List PyData := xs.map .int
def farL (xs : List Int) : LV := .lst ((il xs).map .imm)
def Jar.lv (J : Jar) : LV := .dic [(.inr "far", farL J.far), (.inr "cells", .imm (.list (il J.cells))), (.inr "seal", .imm (.int J.sea)), (.inr "count", .imm (.int J.cnt))]
structure Jok (k : Nat) (J : Jar) : Prop where
  far : J.far.length ≤ 100
  pos : 0 < J.cells.length
  cap : J.cells.length ≤ 100
  c0 : 0 ≤ J.cnt
  c1 : J.cnt ≤ k
  big : ∃ B : Nat, B ≤ 10000000 ∧ ∀ c ∈ J.cells, c.natAbs < 2 ^ B
theorem log2_le {n k : Nat} (h : n < 2 ^ k) : n.log2 ≤ k := by
  by_cases z : n = 0
  · subst z; exact Nat.zero_le _
  · exact Nat.le_of_lt ((Nat.log2_lt z).mpr h)
theorem mulOk_of {i j : Int} (a b : Nat) (hi : i.natAbs < 2 ^ a) (hj : j.natAbs < 2 ^ b) (h : a + b < 100000000) : mulOk i j = true := by
  have := log2_le hi
  have := log2_le hj
  simp only [mulOk, decide_eq_true_eq]
  omega
def DrawS (cf : CF) : Prop := ∀ {k m : Nat} {J : Jar}, Jok k J → k ≤ 2 ^ 30 → 0 < m → m ≤ 2 ^ 30 → ∃ v J', v < m ∧ Jok (k + 1) J' ∧ cf 1 [J.lv, .imm (.int m)] = .ok (.imm (.int v)) [J'.lv]
theorem far_giv (xs : List Int) : (farL xs).giv = true := givs_imm _
theorem far_giv1 (xs : List Int) : LV.giv.giv1 (farL xs) = true := givs_imm _
theorem jar_giv (J : Jar) : J.lv.giv = true := by
  simp [Jar.lv, LV.giv, LV.giv.givk, LV.giv.giv1, far_giv1]
theorem far_nl (xs : List Int) : (farL xs).nl = true := nl_lst _
theorem jar_nl (J : Jar) : J.lv.nl = true := by
  simp [Jar.lv, LV.nl, LV.nlk, far_nl]
/-- the jar while its far numbers are shared -/
def jr (cells : List Int) (sea cnt : Int) : LV := .dic [(.inr "far", .ref 0), (.inr "cells", .imm (.list (il cells))), (.inr "seal", .imm (.int sea)), (.inr "count", .imm (.int cnt))]
theorem jr_back (far cells : List Int) (sea cnt : Int) : rsv [some (farL far)] (jr cells sea cnt) = some ((⟨far, cells, sea, cnt⟩ : Jar).lv, [none]) := by
  simp [jr, rsv, rsv.rsvk, far_giv, Jar.lv]
theorem mod_lt {v : Int} {m : Nat} (hm : 0 < m) : ∃ n : Nat, n < m ∧ v % (m : Int) = n := by
  have h1 := Int.emod_nonneg v (b := m) (by omega)
  have h2 := Int.emod_lt_of_pos v (b := m) (by omega)
  exact ⟨(v % m).toNat, by omega, by omega⟩
theorem draw_ev (cf : CF) {k m : Nat} {J : Jar} (h : Jok k J) (hk : k ≤ 2 ^ 30) (hm : 0 < m) (hm' : m ≤ 2 ^ 30) : ∃ v J', v < m ∧ Jok (k + 1) J' ∧ runB 2 7 [0] (b__law_draw cf) [J.lv, .imm (.int m)] = .ok (.imm (.int v)) [J'.lv] := by
  obtain ⟨far, cells, sea, cnt⟩ := J
  have hm2 : (0 : Int) < m := by omega
  have hm3 : (m : Int).natAbs.log2 < 9000 := Nat.lt_of_le_of_lt (log2_le (k := 31) (by rw [Int.natAbs_natCast]; omega)) (by decide)
  cases far with
  | cons a far =>
    obtain ⟨v, hv, ev⟩ := mod_lt (v := a) hm
    refine ⟨v, ⟨if (m : Int) ≤ a then a / m :: far else far, cells, sea, cnt⟩, hv, ?_, ?_⟩
    · obtain ⟨h1, h2, h3, h4, h5, h6⟩ := h
      refine ⟨?_, h2, h3, h4, by simp only at h5 ⊢; omega, h6⟩
      simp only [List.length_cons] at h1
      simp only
      split
      · simpa using h1
      · omega
    refine run_ret (s := ⟨[some (jr cells sea cnt), some (.imm (.int m)), some (.ref 0), none, some (.imm (.int a)), none, none], [farL (if (m : Int) ≤ a then a / m :: far else far)]⟩) (x := .imm (.int v)) rfl (by simp [nlAll, jar_nl, LV.nl]) ?_ rfl ?_ (ob' := [none])
    · refine st_seq (s1 := ⟨[some (jr cells sea cnt), some (.imm (.int m)), none, none, none, none, none], [farL (a :: far)]⟩) (st_share2 rfl rfl (far_giv _) rfl) ?_
      refine st_seq (s1 := ⟨[some (jr cells sea cnt), some (.imm (.int m)), some (.ref 0), none, none, none, none], [farL (a :: far)]⟩) (by and_intros) ?_
      refine st_seqR (st_if (b := true) (s1 := ⟨[some (jr cells sea cnt), some (.imm (.int m)), some (.ref 0), none, none, none, none], [farL (a :: far)]⟩) (ev_tst (ev_op v_ref (ev_lst rfl len0) (dat_ref (l := 0) (ds := il (a :: far))) dat_nil (ne_datum (α := List Int) (a :: far) []) rfl nf)) (fun _ => ?_) (fun z => nomatch z))
      refine st_seq (s1 := ⟨[some (jr cells sea cnt), some (.imm (.int m)), some (.ref 0), none, some (.imm (.int a)), none, none], [farL far]⟩) (st_set2 (x := .imm (.int a)) (ev_mut (ds := []) rfl rfl (s1 := ⟨[some (jr cells sea cnt), some (.imm (.int m)), some (.ref 0), none, none, none, none], [farL (a :: far)]⟩) (ev_consA rfl rfl nf) (z := farL (a :: far)) rfl rfl (z' := farL far) ?_ rfl) rfl ltl rfl) ?_
      · simp [mutG, farL, ixN, il]
      refine st_seq (s1 := ⟨[some (jr cells sea cnt), some (.imm (.int m)), some (.ref 0), none, some (.imm (.int a)), none, none], [farL (if (m : Int) ≤ a then a / m :: far else far)]⟩) (st_if (b := decide ((m : Int) ≤ a)) (s1 := ⟨[some (jr cells sea cnt), some (.imm (.int m)), some (.ref 0), none, some (.imm (.int a)), none, none], [farL far]⟩) (by and_intros) (fun z => ?_) fun z => ?_) ?_
      · rw [if_pos (by simpa using z)]
        refine st_ex (x := .imm .none) (ev_mut (ds := []) rfl rfl (xs := [.imm (.int 0), .imm (.int (a / m))]) (s1 := ⟨[some (jr cells sea cnt), some (.imm (.int m)), some (.ref 0), none, some (.imm (.int a)), none, none], [farL far]⟩) ?_ (z := farL far) rfl rfl (z' := farL (a / m :: far)) ?_ rfl)
        · and_intros
        · have := h.far
          simp only [List.length_cons] at this
          simp [mutG, farL, sizeLine, il]
          omega
      · rw [if_neg (by simpa using z)]
        rfl
      · rw [← ev]
        and_intros
    · simp only [outsOf, List.getElem?_cons_zero, List.map_cons, List.map_nil, jr_back]
  | nil =>
    obtain ⟨h1, h2, h3, h4, h5, B, hB, h6⟩ := h
    simp only at h1 h2 h3 h4 h5 h6
    obtain ⟨p, hp, ep⟩ := mod_lt (v := cnt + 1) h2
    obtain ⟨x, hx⟩ : ∃ x, cells[p]? = some x := ⟨_, List.getElem?_eq_getElem hp⟩
    have hx' := h6 x (List.mem_of_getElem? hx)
    have hix : ixK (.list (il cells)) (.int ((cnt + 1) % ((il cells).length : Nat))) = some (.dat (.int x)) := by
      rw [show (il cells).length = cells.length from List.length_map .., ep]
      exact ixK_lst (by simp [il, hx])
    have hil : (0 : Int) < ((il cells).length : Nat) := by simpa [il] using h2
    have kk : k + 1 < 2 ^ 31 := by omega
    let m1 : Int := (sea + 7919 * x + 104729 * (cnt + 1)) % 4294967291
    let m2 : Int := (m1 * 22695477 + (cnt + 1) * (cnt + 1) + 1) % 4294967291
    let m3 : Int := (m2 * 48271 + m2 / 65536) % 4294967279
    have b1 : m1.natAbs < 2 ^ 33 := by
      have := Int.emod_nonneg (sea + 7919 * x + 104729 * (cnt + 1)) (b := 4294967291) (by decide)
      have := Int.emod_lt_of_pos (sea + 7919 * x + 104729 * (cnt + 1)) (b := 4294967291) (by decide)
      omega
    have b2 : m2.natAbs < 2 ^ 33 := by
      have := Int.emod_nonneg (m1 * 22695477 + (cnt + 1) * (cnt + 1) + 1) (b := 4294967291) (by decide)
      have := Int.emod_lt_of_pos (m1 * 22695477 + (cnt + 1) * (cnt + 1) + 1) (b := 4294967291) (by decide)
      omega
    obtain ⟨v, hv, ev⟩ := mod_lt (v := m3 / 1024) hm
    have bc : (cnt + 1).natAbs < 2 ^ 32 := by omega
    refine ⟨v, ⟨[], cells, sea, cnt + 1⟩, hv, ⟨h1, h2, h3, by simp only; omega, by simp only; omega, B, hB, h6⟩, ?_⟩
    refine run_ret (s := ⟨[some (jr cells sea (cnt + 1)), some (.imm (.int m)), some (.ref 0), some (.imm (.int m3)), none, some (.imm (.int (cnt + 1))), some (.imm (.list (il cells)))], [farL []]⟩) (x := .imm (.int v)) rfl (by simp [nlAll, jar_nl, LV.nl]) ?_ rfl ?_ (ob' := [none])
    · refine st_seq (s1 := ⟨[some (jr cells sea cnt), some (.imm (.int m)), none, none, none, none, none], [farL []]⟩) (st_share2 rfl rfl (far_giv _) rfl) ?_
      refine st_seq (s1 := ⟨[some (jr cells sea cnt), some (.imm (.int m)), some (.ref 0), none, none, none, none], [farL []]⟩) (by and_intros) ?_
      refine st_seq (s1 := ⟨[some (jr cells sea cnt), some (.imm (.int m)), some (.ref 0), none, none, none, none], [farL []]⟩) (st_if (b := false) (s1 := ⟨[some (jr cells sea cnt), some (.imm (.int m)), some (.ref 0), none, none, none, none], [farL []]⟩) (ev_tst (ev_op v_ref (ev_lst rfl len0) (dat_ref (l := 0) (ds := il [])) dat_nil (ne_datum (α := List Int) [] []) rfl nf)) (fun z => nomatch z) (fun _ => rfl)) ?_
      refine st_seq (s1 := ⟨[some (jr cells sea (cnt + 1)), some (.imm (.int m)), some (.ref 0), none, none, none, none], [farL []]⟩) (st_setix (ds := []) (d := .str "count") (x := .imm (.int (cnt + 1))) (z := jr cells sea cnt) (z' := jr cells sea (cnt + 1)) (by and_intros) rfl rfl rfl rfl rfl rfl) ?_
      refine st_seq (s1 := ⟨[some (jr cells sea (cnt + 1)), some (.imm (.int m)), some (.ref 0), none, none, some (.imm (.int (cnt + 1))), some (.imm (.list (il cells)))], [farL []]⟩) (by and_intros) ?_
      refine st_seq (s1 := ⟨[some (jr cells sea (cnt + 1)), some (.imm (.int m)), some (.ref 0), some (.imm (.int m1)), none, some (.imm (.int (cnt + 1))), some (.imm (.list (il cells)))], [farL []]⟩) ?_ ?_
      · and_intros
        · exact mulOk_of 13 B (by decide) hx' (by omega)
        · exact mulOk_of 17 32 (by decide) bc (by decide)
      refine st_seq (s1 := ⟨[some (jr cells sea (cnt + 1)), some (.imm (.int m)), some (.ref 0), some (.imm (.int m2)), none, some (.imm (.int (cnt + 1))), some (.imm (.list (il cells)))], [farL []]⟩) ?_ ?_
      · and_intros
        · exact mulOk_of 33 25 b1 (by decide) (by decide)
        · exact mulOk_of 32 32 bc bc (by decide)
      refine st_seq (s1 := ⟨[some (jr cells sea (cnt + 1)), some (.imm (.int m)), some (.ref 0), some (.imm (.int m3)), none, some (.imm (.int (cnt + 1))), some (.imm (.list (il cells)))], [farL []]⟩) ?_ ?_
      · and_intros
        · exact mulOk_of 33 16 b2 (by decide) (by decide)
      rw [← ev]
      and_intros
    · simp only [outsOf, List.getElem?_cons_zero, List.map_cons, List.map_nil, jr_back]
theorem mk_int (b : Bool) (i : Int) : mkImm b (.int i) = .imm (.int i) := by cases b <;> rfl
theorem map_mk (b : Bool) (xs : List Int) : (il xs).map (mkImm b) = (il xs).map .imm := by
  simp [il, Function.comp_def, mk_int]
theorem lst_lh (ds : List PyData) : (LV.lst (ds.map .imm)).lh = false := by simp [LV.lh, nl_lst]
theorem itP_lst {s : LS} {fa : EvF} {x : LV} {s1 : LS} {ds : List PyData} (ha : fa s = .ok (x, s1)) (hd : x.dat s1.ob = some (.list ds)) (hi : ds.map (mkImm x.lh) = ds.map .imm) (hl : x.lh = false) : itP fa s = .ok ((ds.map .imm, false), s1) := by
  rw [ev_itPl ha hd rfl, hi, hl]
theorem cut_map (ns : List Int) (lo hi : Option Int) : MP.cutD (il ns) lo hi = il (MP.cutD ns lo hi) := by simp [MP.cutD, il, List.map_take, List.map_drop]
theorem mem_cut {ns : List Int} {lo hi : Option Int} {x : Int} (h : x ∈ MP.cutD ns lo hi) : x ∈ ns := List.mem_of_mem_drop (List.mem_of_mem_take h)
theorem cut_len (ns : List Int) (lo hi : Option Int) : (MP.cutD ns lo hi).length ≤ ns.length := by
  simp only [MP.cutD, List.length_take, List.length_drop]; omega
def celM (a : Int) : Int := if 0 ≤ a then 2 * a else -2 * a - 1
theorem cel_lt {a : Int} {B : Nat} (h : a.natAbs < 2 ^ B) : (celM a).natAbs < 2 ^ (B + 1) := by
  rw [Nat.pow_succ]
  unfold celM
  split <;> omega
theorem nlL_nil {sl : List (Option LV)} (h : nlS sl = true) : nlL ⟨sl, []⟩ = true := by simp [nlL, h, LV.nls]
theorem ev_lc1 {s s1 : LS} {fi : ItF} {t : Tg} {α : Type} (as : List α) (v : α → LV) {own : List Nat} {be : Bool} {fe : EvF} (W : List (Option LV)) (e : α → LV) (B : α → List (Option LV))
    (hi : fi s = .ok ((as.map v, false), s1)) (hc : cleanL s1.sl own = true) (hn : nlL s1 = true) (hx : nlAll (as.map v) = true) (hW : wipeL s1.sl own = W)
    (hB : ∀ a ∈ as, bindT t (v a) W = some (B a)) (hB2 : ∀ a ∈ as, wipeL (B a) own = W) (h0 : backL s1.sl s1.sl own = s1.sl) (h1 : ∀ a ∈ as, backL s1.sl (B a) own = s1.sl)
    (he : ∀ a ∈ as, fe ⟨B a, s1.ob⟩ = .ok (e a, ⟨B a, s1.ob⟩)) (hl : as.length ≤ sizeLine) (hy : nlAll (as.map e) = true) :
    lcE own be t fi tyE fe s = .ok (.lst (as.map e), s1) := by
  have := ev_lc (ft := tyE) (p := fun _ => true) as v (be := be) hi hc hn hx hW hB hB2 h0 h1 (fun _ _ => rfl) (fun a h _ => he a h) (by rwa [List.filter_eq_self.mpr fun _ _ => rfl, List.length_map]) (by rwa [List.filter_eq_self.mpr fun _ _ => rfl])
  rwa [List.filter_eq_self.mpr fun _ _ => rfl] at this
theorem ev_dk {s s1 : LS} {ks : List Str} {gA : LS → Res (List LV × LS)} {xs : List LV} {z : LV} (ha : gA s = .ok (xs, s1)) (h1 : ks.length = xs.length) (h2 : ks.length ≤ 15) (h3 : ks.Nodup) (h4 : nlAll xs = true) (h5 : nlL s1 = true) (hz : LV.dic ((ks.map Sum.inr).zip xs) = z) : dkE ks gA s = .ok (z, s1) := by
  subst hz
  simp only [dkE, ha, Res.bind]
  exact if_pos ⟨h1, h2, h3, h4, h5⟩
theorem il_nl (xs : List Int) : nlAll ((il xs).map .imm) = true := nlAll_imm _
theorem mapc {α : Type} (f : α → PyData) (xs : List α) : xs.map (fun a => LV.imm (f a)) = (xs.map f).map LV.imm := by simp [Function.comp_def]
abbrev im1 (d : PyData) : Option LV := some (.imm d)
theorem jar_ev (cf : CF) {ns : List Int} (hl : ns.length ≤ 63) {B : Nat} (hB : B ≤ 5000000) (hb : ∀ n ∈ ns, n.natAbs < 2 ^ B) : ∃ J, Jok 0 J ∧ runB 1 5 [] (b__law_jar cf) [.imm (scrD ns)] = .ok J.lv [] := by
  let cs := MP.cutD ns none (some 63)
  let cells := cs.map celM
  have hcl : cs.length ≤ 63 := Nat.le_trans (cut_len ..) hl
  have hcb : ∀ c ∈ cells, c.natAbs < 2 ^ (B + 1) := fun c h => by
    obtain ⟨a, ha, rfl⟩ := List.mem_map.mp h
    exact cel_lt (hb a (mem_cut ha))
  -- the loop over the cells
  have loop : ∃ s', forL (.nm 1) (setS1 4 (op2E (bopD .Mod) lvB false (biE (biD .int) (consA false (op2E (bopD .Add) lvB false (op2E (bopD .Add) lvB false (op2E (bopD .Mult) lvB false (varE 4) (cE (.int 16807))) (op2E (bopD .Mult) lvB false (varE 1) (cE (.int 3)))) (cE (.int 5))) nilA)) (cE (.int 4294967279)))) (cells.map fun c => .imm (.int c)) ⟨[im1 (scrD ns), none, none, im1 (.list (il cells)), im1 (.int (15026 + 5 * ns.length))], []⟩ = .nxt s' ∧
      ∃ g se, s' = ⟨[im1 (scrD ns), g, none, im1 (.list (il cells)), im1 (.int se)], []⟩ ∧ se.natAbs < 2 ^ 33 ∧ (g = none ∨ ∃ d, g = im1 d) := by
    refine forL_run (fun c : Int => .imm (.int c)) (fun _ s' => ∃ g se, s' = ⟨[im1 (scrD ns), g, none, im1 (.list (il cells)), im1 (.int se)], []⟩ ∧ se.natAbs < 2 ^ 33 ∧ (g = none ∨ ∃ d, g = im1 d)) (done := []) ⟨none, _, rfl, by omega, .inl rfl⟩ ?_
    rintro pre c rest e s ⟨g, se, rfl, hse, _⟩
    have hc : c ∈ cells := by
      have e : cells = pre ++ c :: rest := e
      rw [e]; simp
    refine ⟨[im1 (scrD ns), im1 (.int c), none, im1 (.list (il cells)), im1 (.int se)], rfl, ⟨[im1 (scrD ns), im1 (.int c), none, im1 (.list (il cells)), im1 (.int ((se * 16807 + c * 3 + 5) % 4294967279))], []⟩, .inl ?_, ⟨_, _, rfl, ?_, .inr ⟨_, rfl⟩⟩⟩
    · and_intros
      · exact mulOk_of 33 15 hse (by decide) (by decide)
      · exact mulOk_of (B + 1) 2 (hcb c hc) (by decide) (by omega)
    · have := Int.emod_nonneg (se * 16807 + c * 3 + 5) (b := 4294967279) (by decide)
      have := Int.emod_lt_of_pos (se * 16807 + c * 3 + 5) (b := 4294967279) (by decide)
      omega
  obtain ⟨s', el, g, se, rfl, hse, hg⟩ := loop
  have hgc : nlS [im1 (scrD ns), g, none, im1 (.list (il cells)), im1 (.int se)] = true ∧ cleanL [im1 (scrD ns), g, none, im1 (.list (il cells)), im1 (.int se)] [1] = true := by
    rcases hg with rfl | ⟨d, rfl⟩ <;> exact ⟨rfl, rfl⟩
  refine ⟨⟨cells.filter fun c => decide (10 ^ 18 ≤ c), cells ++ [7 * (cells.length : Int) + 3], se, 0⟩, ⟨?_, ?_, ?_, Int.le_refl _, Int.le_refl _, B + 10, by omega, ?_⟩, ?_⟩
  · simp only
    refine Nat.le_trans (List.length_filter_le ..) ?_
    simp only [cells, List.length_map]; omega
  · simp
  · simp only [cells, List.length_append, List.length_map, List.length_singleton]; omega
  · intro c hc
    rcases List.mem_append.mp hc with hc | hc
    · exact Nat.lt_of_lt_of_le (hcb c hc) (Nat.pow_le_pow_right (by decide) (by omega))
    · rw [List.mem_singleton] at hc
      subst hc
      refine Nat.lt_of_lt_of_le (m := 2 ^ 10) ?_ (Nat.pow_le_pow_right (by decide) (by omega))
      have : cells.length ≤ 63 := by simp only [cells, List.length_map]; exact hcl
      omega
  refine run_ret (s := ⟨[im1 (scrD ns), g, none, im1 (.list (il cells)), im1 (.int se)], []⟩) rfl (by simp [nlAll, LV.nl]) ?_ (rsv_giv _ (jar_giv _)) rfl
  refine st_seq (s1 := ⟨[im1 (scrD ns), none, none, im1 (.list (il cells)), im1 (.int (15026 + 5 * ns.length))], []⟩) (st_par2 (xs := [.imm (.list (il cells)), .imm (.int (15026 + 5 * ns.length))]) (s1 := ⟨[im1 (scrD ns), none, none, none, none], []⟩) (ev_consA (s1 := ⟨[im1 (scrD ns), none, none, none, none], []⟩) (ev_frz (x := .lst ((il cells).map .imm)) ?_ (nl_lst _) (by simp only [LV.dat0, dats0_imm, Option.map_some])) ?_ nf) rfl rfl rfl) ?_
  · have := ev_lc1 (s := ⟨[im1 (scrD ns), none, none, none, none], []⟩) (s1 := ⟨[im1 (scrD ns), none, none, none, none], []⟩) (t := .nm 1) (own := [1]) (be := false) (fi := itP (slE false (varE 0) noO (intO (cE (.int 63))))) (fe := iteE (op2E (cmpK .GtE) lvC false (varE 1) (cE (.int 0))) (op2E (bopD .Mult) lvB false (cE (.int 2)) (varE 1)) (op2E (bopD .Sub) lvB false (op2E (bopD .Mult) lvB false (negE (cE (.int 2))) (varE 1)) (cE (.int 1)))) cs (fun c => .imm (.int c)) [im1 (scrD ns), none, none, none, none] (fun c => .imm (.int (celM c))) (fun c => [im1 (scrD ns), im1 (.int c), none, none, none]) ?_ rfl rfl ?_ rfl (fun _ _ => rfl) (fun _ _ => rfl) rfl (fun _ _ => rfl) (fun c hc => ?_) ?_ ?_
    · rw [mapc (fun c => PyData.int (celM c))] at this
      simpa [cells, il, Function.comp_def] using this
    · rw [mapc PyData.int, show List.map PyData.int cs = MP.cutD (il ns) none (some 63) from (cut_map _ _ _).symm]
      refine itP_lst (x := .lst ((MP.cutD (il ns) none (some 63)).map .imm)) ?_ (dat_lst _) (by rw [cut_map, map_mk]) (lst_lh _)
      exact ev_sl (d := scrD ns) (ev_v rfl rfl) ev_noO (ev_intO ev_c) rfl rfl rfl
    · rw [mapc PyData.int]; exact nlAll_imm _
    · have hc := hb c (mem_cut hc)
      refine ev_ite (b := decide (0 ≤ c)) (s1 := ⟨[im1 (scrD ns), im1 (.int c), none, none, none], []⟩) (by and_intros) (fun z => ?_) fun z => ?_
      · have z : 0 ≤ c := of_decide_eq_true z
        rw [celM, if_pos z]
        and_intros
        exact mulOk_of 2 B (by decide) hc (by omega)
      · have z : ¬ 0 ≤ c := of_decide_eq_false z
        rw [celM, if_neg z]
        and_intros
        exact mulOk_of 2 B (by decide) hc (by omega)
    · simp [sizeLine]; omega
    · rw [mapc (fun c => PyData.int (celM c))]; exact nlAll_imm _
  · and_intros
    exact mulOk_of 3 10 (by decide) (by simp; omega) (by decide)
  refine st_seq (s1 := ⟨[im1 (scrD ns), g, none, im1 (.list (il cells)), im1 (.int se)], []⟩) (st_for (s1 := ⟨[im1 (scrD ns), none, none, im1 (.list (il cells)), im1 (.int (15026 + 5 * ns.length))], []⟩) (xs := cells.map fun c => .imm (.int c)) ?_ el) ?_
  · rw [mapc PyData.int]
    exact ev_itP (ev_v rfl rfl) rfl rfl rfl
  refine st_seq (s1 := ⟨[im1 (scrD ns), g, some (farL (cells.filter fun c => decide (10 ^ 18 ≤ c))), im1 (.list (il cells)), im1 (.int se)], []⟩) (st_set2 (x := farL (cells.filter fun c => decide (10 ^ 18 ≤ c))) (s1 := ⟨[im1 (scrD ns), g, none, im1 (.list (il cells)), im1 (.int se)], []⟩) ?_ (far_nl _) ltl rfl) ?_
  · have := ev_lc (s := ⟨[im1 (scrD ns), g, none, im1 (.list (il cells)), im1 (.int se)], []⟩) (s1 := ⟨[im1 (scrD ns), g, none, im1 (.list (il cells)), im1 (.int se)], []⟩) (t := .nm 1) (own := [1]) (be := false) (fi := itP (varE 3)) (ft := tstE (op2E (cmpK .GtE) lvC false (varE 1) (op2E (bopD .Pow) lvB false (cE (.int 10)) (cE (.int 18))))) (fe := varE 1) (p := fun c => decide (10 ^ 18 ≤ c)) (e := fun c => .imm (.int c)) (W := [im1 (scrD ns), none, none, im1 (.list (il cells)), im1 (.int se)]) (B := fun c => [im1 (scrD ns), im1 (.int c), none, im1 (.list (il cells)), im1 (.int se)]) cells (fun c => .imm (.int c)) ?_ hgc.2 (nlL_nil hgc.1) ?_ rfl (fun _ _ => rfl) (fun _ _ => rfl) rfl (fun _ _ => rfl) (fun c hc => ?_) (fun c hc _ => ev_v rfl rfl) ?_ ?_
    · rw [mapc PyData.int] at this
      exact this
    · rw [mapc PyData.int]
      exact ev_itP (ev_v rfl rfl) rfl rfl rfl
    · rw [mapc PyData.int]; exact nlAll_imm _
    · refine ev_tst (ev_op (e := .int (10 ^ 18)) (ev_v rfl rfl) (ev_op ev_c ev_c rfl rfl (r := .dat (.int (10 ^ 18))) rfl rfl nf) rfl rfl (ge_int _ _) rfl nf)
    · have := List.length_filter_le (fun c : Int => decide (10 ^ 18 ≤ c)) cells
      have e : cells.length = cs.length := by simp only [cells, List.length_map]
      simp only [List.length_map, sizeLine]
      omega
    · rw [mapc PyData.int]; exact nlAll_imm _
  refine st_ret (s1 := ⟨[im1 (scrD ns), g, none, im1 (.list (il cells)), im1 (.int se)], []⟩) ?_
  refine ev_dk (xs := [farL (cells.filter fun c => decide (10 ^ 18 ≤ c)), .imm (.list (il (cells ++ [7 * (cells.length : Int) + 3]))), .imm (.int se), .imm (.int 0)]) ?_ rfl (by decide) (by decide) (nlAll_cons (far_nl _) rfl) (nlL_nil ?_) rfl
  · refine ev_consA (s1 := ⟨[im1 (scrD ns), g, none, im1 (.list (il cells)), im1 (.int se)], []⟩) (ev_take2 rfl rfl) (ev_consA (s1 := ⟨[im1 (scrD ns), g, none, im1 (.list (il cells)), im1 (.int se)], []⟩) (ev_frz (x := .lst ((il (cells ++ [7 * (cells.length : Int) + 3])).map .imm)) ?_ (nl_lst _) (by simp only [LV.dat0, dats0_imm, Option.map_some])) (ev_consA (ev_v rfl rfl) (ev_consA ev_c ev_nilA nf) nf) nf) nf
    have e : il (cells ++ [7 * (cells.length : Int) + 3]) = il cells ++ [.int (7 * ((il cells).length : Nat) + 3)] := by simp [il]
    rw [e]
    refine ev_op (x := .imm (.list (il cells))) (y := .lst [.imm (.int (7 * ((il cells).length : Nat) + 3))]) (s1 := ⟨[im1 (scrD ns), g, none, im1 (.list (il cells)), im1 (.int se)], []⟩) (d := .list (il cells)) (e := .list [.int (7 * ((il cells).length : Nat) + 3)]) (r := .nl (il cells ++ [.int (7 * ((il cells).length : Nat) + 3)])) (ev_v rfl rfl) (ev_lst ?_ len1) rfl rfl ?_ rfl nf
    · and_intros
      have hq : mulOk 7 ((il cells).length : Nat) = true := mulOk_of 3 10 (by decide) (by simp [il, cells]; omega) (by decide)
      exact hq
    · have : (il cells).length ≤ 63 := by simp only [il, cells, List.length_map]; exact hcl
      simp only [bopD, List.length_singleton]
      exact if_pos (by simp only [sizeLine]; omega)
  · rcases hg with rfl | ⟨d, rfl⟩ <;> rfl
theorem jar_giv1 (J : Jar) : LV.giv.giv1 J.lv = true := jar_giv J
instance nlv_jar (J : Jar) : NlV J.lv := ⟨jar_nl J⟩
instance : Inhabited Jar := ⟨⟨[], [], 0, 0⟩⟩
theorem il_inj : ∀ {xs ys : List Int}, (il xs).map LV.imm = (il ys).map LV.imm → xs = ys
  | [], [], _ => rfl
  | [], _ :: _, h => by cases h
  | _ :: _, [], h => by cases h
  | x :: xs, y :: ys, h => by
    simp only [il, List.map_cons, List.cons.injEq, LV.imm.injEq, PyData.int.injEq] at h
    rw [h.1, il_inj (xs := xs) (ys := ys) h.2]
theorem il_inj' {xs ys : List Int} (h : il xs = il ys) : xs = ys := il_inj (by rw [h])
theorem lv_inj {J K : Jar} (h : J.lv = K.lv) : J = K := by
  obtain ⟨f, c, s, n⟩ := J
  obtain ⟨f', c', s', n'⟩ := K
  simp only [Jar.lv, farL, LV.dic.injEq, List.cons.injEq, Prod.mk.injEq, LV.lst.injEq, LV.imm.injEq, PyData.list.injEq, PyData.int.injEq, true_and, and_true] at h
  obtain ⟨h1, h2, h3, h4⟩ := h
  rw [il_inj h1, il_inj' h2, h3, h4]
noncomputable def T__law_draw (J : Jar) (m : Nat) : Option (Nat × Jar) := open Classical in if h : ∃ r : Nat × Jar, runB 2 7 [0] (b__law_draw fun _ _ => .stuck) [J.lv, .imm (.int m)] = .ok (.imm (.int r.1)) [r.2.lv] then some h.choose else none
def S__law_draw (cf : CF) : Prop := ∀ (J : Jar) (m : Nat) (r : Nat × Jar), T__law_draw J m = some r → cf 1 [J.lv, iF nD m] = .ok (iF nD r.1) [r.2.lv]
theorem y__law_draw (n : Nat) : S__law_draw (callF P (n + 1)) := fun J m r h => (callF_at (P := P) (n := n) (fi := 1) (d := d__law_draw) rfl _).trans (by
  unfold T__law_draw at h
  split at h
  · rename_i q
    cases h
    exact q.choose_spec
  · cases h)
theorem draw_T {k m : Nat} {J : Jar} (h : Jok k J) (hk : k ≤ 2 ^ 30) (hm : 0 < m) (hm' : m ≤ 2 ^ 30) : ∃ v J', v < m ∧ Jok (k + 1) J' ∧ T__law_draw J m = some (v, J') := by
  obtain ⟨v, J', hv, hJ, e⟩ := draw_ev (fun _ _ => .stuck) h hk hm hm'
  refine ⟨v, J', hv, hJ, ?_⟩
  have q : ∃ r : Nat × Jar, runB 2 7 [0] (b__law_draw fun _ _ => .stuck) [J.lv, .imm (.int m)] = .ok (.imm (.int r.1)) [r.2.lv] := ⟨(v, J'), e⟩
  unfold T__law_draw
  rw [dif_pos q]
  have e2 := e.symm.trans q.choose_spec
  simp only [CRes.ok.injEq, LV.imm.injEq, PyData.int.injEq, List.cons.injEq, and_true] at e2
  obtain ⟨e3, e4⟩ := e2
  congr 1
  exact Prod.ext (by omega) (lv_inj e4).symm
noncomputable def T__law_jar (ns : List Int) : Option Jar := open Classical in if h : ∃ J : Jar, runB 1 5 [] (b__law_jar fun _ _ => .stuck) [.imm (scrD ns)] = .ok J.lv [] then some h.choose else none
def S__law_jar (cf : CF) : Prop := ∀ (ns : List Int) (r : Jar), T__law_jar ns = some r → cf 0 [iF scrD ns] = .ok r.lv []
theorem y__law_jar (n : Nat) : S__law_jar (callF P (n + 1)) := fun ns r h => (callF_at (P := P) (n := n) (fi := 0) (d := d__law_jar) rfl _).trans (by
  unfold T__law_jar at h
  split at h
  · rename_i q
    cases h
    exact q.choose_spec
  · cases h)
theorem jar_T {ns : List Int} (hl : ns.length ≤ 63) {B : Nat} (hB : B ≤ 5000000) (hb : ∀ n ∈ ns, n.natAbs < 2 ^ B) : ∃ J, Jok 0 J ∧ T__law_jar ns = some J := by
  obtain ⟨J, hJ, e⟩ := jar_ev (fun _ _ => .stuck) hl hB hb
  refine ⟨J, hJ, ?_⟩
  have q : ∃ J : Jar, runB 1 5 [] (b__law_jar fun _ _ => .stuck) [.imm (scrD ns)] = .ok J.lv [] := ⟨J, e⟩
  unfold T__law_jar
  rw [dif_pos q]
  have e2 := e.symm.trans q.choose_spec
  simp only [CRes.ok.injEq, and_true] at e2
  rw [← lv_inj e2]

end Law
namespace Law
open PySem PySem.Spec PyProof.Rows L2 MP TL JM
/-! _law_shut -/
noncomputable def T__law_shut (rows' : (List (List Nat))) : Option (List (List Nat)) := finO (lam := Unit) (σ := Unit) ((gu ((rows'.length ≤ sizeLine) ∧ (∀ a1 ∈ rows', (a1.length ≤ sizeLine))) (.rt (rows'.map (fun (a1 : (List Nat)) => (a1.mergeSort (leD nD))))))) (fun _ => none)
def S__law_shut (cf : CF) : Prop := ∀ (rows' : (List (List Nat))) (r : (List (List Nat))), T__law_shut rows' = some r → cf 3 [iF (lsD (lsD nD)) rows'] = .ok ((fun r : (List (List Nat)) => iF (tpD (tpD nD)) r) r) ((fun r : (List (List Nat)) => []) r)
theorem ev__law_shut {cf : CF} (rows' : (List (List Nat))) (r : (List (List Nat))) (h : T__law_shut rows' = some r) : runB d__law_shut.np d__law_shut.ns d__law_shut.io (b__law_shut cf) [iF (lsD (lsD nD)) rows'] = .ok ((fun r : (List (List Nat)) => iF (tpD (tpD nD)) r) r) ((fun r : (List (List Nat)) => []) r) := by
  unfold T__law_shut at h
  refine fn_ok (k := (fun _ => none)) (io := []) (lam := Unit) (Λ := fun _ => []) (R := (fun r : (List (List Nat)) => iF (tpD (tpD nD)) r)) (O := (fun r : (List (List Nat)) => [])) (Φ := (fun _ : Unit => [])) (Γ := [.is (iF (lsD (lsD nD)) rows'), .cl]) ?_ rfl rfl (nla_c rfl nla_n) (fun r => rfl) (fun r => go_n) (by intro _ _ z; cases z) h
  unfold b__law_shut
  exact
   (tb_ret (te_tupL (te_lc (K := iF (tpD nD)) (ti_I (te_v rfl)) (fun (a1 : (List Nat)) => tg_nm) (fun (a1 : (List Nat)) => (te_tupL (te_sorted (te_v rfl) (vi _)) (vl _))) (fun (a1 : (List Nat)) => (wk_s (wk_a wk_n))) (Cn.c rfl Cn.n)) (vl _)) (fun q => ⟨trivial, ⟨q.1, (fun a1 a1m => ⟨trivial, (q.2 a1 a1m)⟩)⟩⟩) rfl)
theorem y__law_shut (n : Nat) : S__law_shut (callF P (n + 1)) := by
  intro   rows' r h
  exact (callF_at (P := P) (n := n + 0) (fi := 3) (d := d__law_shut) rfl _).trans (ev__law_shut (cf := callF P (n + 0)) rows' r h)

/-! _law_matches -/
noncomputable def T__law_matches (n' : Nat) : Option (List (Nat × Nat)) := finO (lam := Unit) (σ := Unit) ((lt ([] : (List (Nat × Nat))) fun found_1 => ((gu (n' < 2 ^ 62) (forO (fun (a2 : Nat) (s3 : (List (Nat × Nat))) =>
 (gu ((((a2 + 1) < 2 ^ 62 ∧ n' < 2 ^ 62) ∧ ((List.range' (a2 + 1) (n' - (a2 + 1))).length ≤ sizeLine)) ∧ (s3.length + ((List.range' (a2 + 1) (n' - (a2 + 1))).map (fun (a4 : Nat) => (a2, a4))).length ≤ sizeLine)) (.nx (s3 ++ ((List.range' (a2 + 1) (n' - (a2 + 1))).map (fun (a4 : Nat) => (a2, a4))))))) (List.range n') found_1)).bind fun s5 =>
 (.rt s5)))) (fun _ => none)
def S__law_matches (cf : CF) : Prop := ∀ (n' : Nat) (r : (List (Nat × Nat))), T__law_matches n' = some r → cf 4 [iF nD n'] = .ok ((fun r : (List (Nat × Nat)) => lF (iF (p2D nD nD)) r) r) ((fun r : (List (Nat × Nat)) => []) r)
theorem ev__law_matches {cf : CF} (n' : Nat) (r : (List (Nat × Nat))) (h : T__law_matches n' = some r) : runB d__law_matches.np d__law_matches.ns d__law_matches.io (b__law_matches cf) [iF nD n'] = .ok ((fun r : (List (Nat × Nat)) => lF (iF (p2D nD nD)) r) r) ((fun r : (List (Nat × Nat)) => []) r) := by
  unfold T__law_matches at h
  refine fn_ok (k := (fun _ => none)) (io := []) (lam := Unit) (Λ := fun _ => []) (R := (fun r : (List (Nat × Nat)) => lF (iF (p2D nD nD)) r)) (O := (fun r : (List (Nat × Nat)) => [])) (Φ := (fun _ : Unit => [])) (Γ := [.is (iF nD n'), .cl, .cl, .cl]) ?_ rfl rfl (nla_c rfl nla_n) (fun r => (gi_l _)) (fun r => go_n) (by intro _ _ z; cases z) h
  unfold b__law_matches
  exact
   (tb_0 (tb_set (K := lF (iF (p2D nD nD))) (te_ls0 (iF (p2D nD nD))) (fun q => trivial) (fun found_1 =>
 (tb_seq (S := (fun (s3 : (List (Nat × Nat))) => [.is (iF nD n'), .is (lF (iF (p2D nD nD)) s3), .cl, .cl])) (tb_for (S := (fun (s3 : (List (Nat × Nat))) => [.is (iF nD n'), .is (lF (iF (p2D nD nD)) s3), .cl, .cl])) (ti_r1 (ta_c (te_v rfl) ta_n)) (fun q => ⟨⟨trivial, trivial⟩, q⟩) (wk_s (wk_s (wk_s (wk_s wk_n)))) (fun a2 s3 => tg_nm) (fun a2 s3 =>
 (tb_one (ts_ex (te_extF rfl (ta_c (te_lc (K := iF (p2D nD nD)) (ti_r2 (ta_c (te_addN (te_v rfl) (te_cN 1)) (ta_c (te_v rfl) ta_n))) (fun (a4 : Nat) => tg_nm) (fun (a4 : Nat) => (te_tp2 (ta_c (te_v rfl) (ta_c (te_v rfl) ta_n)))) (fun (a4 : Nat) => (wk_s (wk_s (wk_s (wk_a wk_n))))) (Cn.c rfl Cn.n)) ta_n) rfl)) (fun q => ⟨⟨⟨⟨⟨⟨trivial, trivial⟩, ⟨trivial, trivial⟩⟩, q.1.1⟩, ⟨q.1.2, (fun a4 a4m => ⟨trivial, ⟨trivial, trivial⟩⟩)⟩⟩, trivial⟩, q.2⟩) (wk_s (wk_s (wk_c (wk_s wk_n))))))) (fun s5 =>
 (tb_0 (tb_ret (te_take rfl) (fun q => trivial) rfl))))) rfl))
theorem y__law_matches (n : Nat) : S__law_matches (callF P (n + 1)) := by
  intro   n' r h
  exact (callF_at (P := P) (n := n + 0) (fi := 4) (d := d__law_matches) rfl _).trans (ev__law_matches (cf := callF P (n + 0)) n' r h)

/-! _law_rows -/
noncomputable def T__law_rows (league' : (List (List Nat))) : Option (List (List Nat)) := finO (lam := Unit) (σ := Unit) ((gu (league'.length ≤ sizeLine) (.rt (league'.map (fun (a1 : (List Nat)) => a1))))) (fun _ => none)
def S__law_rows (cf : CF) : Prop := ∀ (league' : (List (List Nat))) (r : (List (List Nat))), T__law_rows league' = some r → cf 7 [iF (tpD (tpD nD)) league'] = .ok ((fun r : (List (List Nat)) => lF (lF (iF nD)) r) r) ((fun r : (List (List Nat)) => []) r)
theorem ev__law_rows {cf : CF} (league' : (List (List Nat))) (r : (List (List Nat))) (h : T__law_rows league' = some r) : runB d__law_rows.np d__law_rows.ns d__law_rows.io (b__law_rows cf) [iF (tpD (tpD nD)) league'] = .ok ((fun r : (List (List Nat)) => lF (lF (iF nD)) r) r) ((fun r : (List (List Nat)) => []) r) := by
  unfold T__law_rows at h
  refine fn_ok (k := (fun _ => none)) (io := []) (lam := Unit) (Λ := fun _ => []) (R := (fun r : (List (List Nat)) => lF (lF (iF nD)) r)) (O := (fun r : (List (List Nat)) => [])) (Φ := (fun _ : Unit => [])) (Γ := [.is (iF (tpD (tpD nD)) league'), .cl]) ?_ rfl rfl (nla_c rfl nla_n) (fun r => (gi_l _)) (fun r => go_n) (by intro _ _ z; cases z) h
  unfold b__law_rows
  exact
   (tb_ret (te_lc (K := lF (iF nD)) (ti_T (te_v rfl)) (fun (a1 : (List Nat)) => tg_nm) (fun (a1 : (List Nat)) => (te_lstT (te_v rfl) (vi _))) (fun (a1 : (List Nat)) => (wk_s (wk_a wk_n))) (Cn.c rfl Cn.n)) (fun q => ⟨trivial, ⟨q, (fun a1 a1m => trivial)⟩⟩) rfl)
theorem y__law_rows (n : Nat) : S__law_rows (callF P (n + 1)) := by
  intro   league' r h
  exact (callF_at (P := P) (n := n + 0) (fi := 7) (d := d__law_rows) rfl _).trans (ev__law_rows (cf := callF P (n + 0)) league' r h)

/-! _law_turn -/
noncomputable def T__law_turn (rows' : (List (List Nat))) (a' : Nat) (b' : Nat) : Option (Unit × (List (List Nat))) := finO (lam := Unit) (σ := (List (List Nat))) ((gu (a' < rows'.length) (if (decide (b' ∈ (rows'.getD a' default))) then (gu (a' < rows'.length ∧ b' ∈ (rows'.getD a' [])) (lt (rows'.set a' ((rows'.getD a' []).erase b')) fun rows_1 => (gu (b' < rows_1.length ∧ (rows_1.getD b' []).length < sizeLine) (.nx (rows_1.set b' ((rows_1.getD b' []) ++ [a'])))))) else (gu (b' < rows'.length ∧ a' ∈ (rows'.getD b' [])) (lt (rows'.set b' ((rows'.getD b' []).erase a')) fun rows_2 => (gu (a' < rows_2.length ∧ (rows_2.getD a' []).length < sizeLine) (.nx (rows_2.set a' ((rows_2.getD a' []) ++ [b']))))))))) (fun s => some ((), s))
def S__law_turn (cf : CF) : Prop := ∀ (rows' : (List (List Nat))) (a' : Nat) (b' : Nat) (r : (Unit × (List (List Nat)))), T__law_turn rows' a' b' = some r → cf 8 [lF (lF (iF nD)) rows', iF nD a', iF nD b'] = .ok ((fun r : (Unit × (List (List Nat))) => iF uD r.1) r) ((fun r : (Unit × (List (List Nat))) => [lF (lF (iF nD)) r.2]) r)
theorem ev__law_turn {cf : CF} (rows' : (List (List Nat))) (a' : Nat) (b' : Nat) (r : (Unit × (List (List Nat)))) (h : T__law_turn rows' a' b' = some r) : runB d__law_turn.np d__law_turn.ns d__law_turn.io (b__law_turn cf) [lF (lF (iF nD)) rows', iF nD a', iF nD b'] = .ok ((fun r : (Unit × (List (List Nat))) => iF uD r.1) r) ((fun r : (Unit × (List (List Nat))) => [lF (lF (iF nD)) r.2]) r) := by
  unfold T__law_turn at h
  refine fn_ok (k := (fun s => some ((), s))) (io := [0]) (lam := Unit) (Λ := fun _ => []) (R := (fun r : (Unit × (List (List Nat))) => iF uD r.1)) (O := (fun r : (Unit × (List (List Nat))) => [lF (lF (iF nD)) r.2])) (Φ := (fun s : (List (List Nat)) => [.is (lF (lF (iF nD)) s), .cl, .cl])) (Γ := [.is (lF (lF (iF nD)) rows'), .is (iF nD a'), .is (iF nD b')]) ?_ rfl rfl (nla_c (nl_l _) (nla_c rfl (nla_c rfl nla_n))) (fun r => rfl) (fun r => (go_c (gi_l _) go_n)) (by intro s r z; cases z; exact ⟨rfl, rfl⟩) h
  unfold b__law_turn
  exact
   (tb_if (tt (te_inL (D := nD) (te_v rfl) (te_ixLn (te_vl rfl) (te_v rfl)) (vi _) (vn _) (by first | decide | omega))) (fun q => ⟨trivial, ⟨trivial, trivial, q⟩⟩)
 (tb_chg (K := lF (lF (iF nD))) (ts_ex (te_rem1 rfl (tp_c tp_n (te_v rfl)) (ta_c (te_v rfl) ta_n) rfl)) (fun q => ⟨⟨trivial, trivial⟩, ⟨trivial, trivial⟩, q⟩) (fun rows_1 =>
 (tb_one (ts_ex (te_app1 rfl (tp_c tp_n (te_v rfl)) (ta_c (te_v rfl) ta_n) rfl)) (fun q => ⟨⟨trivial, trivial⟩, ⟨trivial, trivial⟩, q⟩) (wk_s (wk_c (wk_c wk_n))))))
 (tb_chg (K := lF (lF (iF nD))) (ts_ex (te_rem1 rfl (tp_c tp_n (te_v rfl)) (ta_c (te_v rfl) ta_n) rfl)) (fun q => ⟨⟨trivial, trivial⟩, ⟨trivial, trivial⟩, q⟩) (fun rows_2 =>
 (tb_one (ts_ex (te_app1 rfl (tp_c tp_n (te_v rfl)) (ta_c (te_v rfl) ta_n) rfl)) (fun q => ⟨⟨trivial, trivial⟩, ⟨trivial, trivial⟩, q⟩) (wk_s (wk_c (wk_c wk_n)))))))
theorem y__law_turn (n : Nat) : S__law_turn (callF P (n + 1)) := by
  intro   rows' a' b' r h
  exact (callF_at (P := P) (n := n + 0) (fi := 8) (d := d__law_turn) rfl _).trans (ev__law_turn (cf := callF P (n + 0)) rows' a' b' r h)

/-! beat -/
noncomputable def T_beat (league' : (List (List Nat))) (a' : Nat) (b' : Nat) : Option Bool := finO (lam := Unit) (σ := Unit) ((gu (a' < league'.length) (.rt (decide (b' ∈ (league'.getD a' default)))))) (fun _ => none)
def S_beat (cf : CF) : Prop := ∀ (league' : (List (List Nat))) (a' : Nat) (b' : Nat) (r : Bool), T_beat league' a' b' = some r → cf 11 [iF (tpD (tpD nD)) league', iF nD a', iF nD b'] = .ok ((fun r : Bool => iF bD r) r) ((fun r : Bool => []) r)
theorem ev_beat {cf : CF} (league' : (List (List Nat))) (a' : Nat) (b' : Nat) (r : Bool) (h : T_beat league' a' b' = some r) : runB d_beat.np d_beat.ns d_beat.io (b_beat cf) [iF (tpD (tpD nD)) league', iF nD a', iF nD b'] = .ok ((fun r : Bool => iF bD r) r) ((fun r : Bool => []) r) := by
  unfold T_beat at h
  refine fn_ok (k := (fun _ => none)) (io := []) (lam := Unit) (Λ := fun _ => []) (R := (fun r : Bool => iF bD r)) (O := (fun r : Bool => [])) (Φ := (fun _ : Unit => [])) (Γ := [.is (iF (tpD (tpD nD)) league'), .is (iF nD a'), .is (iF nD b')]) ?_ rfl rfl (nla_c rfl (nla_c rfl (nla_c rfl nla_n))) (fun r => rfl) (fun r => go_n) (by intro _ _ z; cases z) h
  unfold b_beat
  exact
   (tb_ret (te_inT (D := nD) (te_v rfl) (te_ixT (te_v rfl) (te_v rfl)) (vi _) (vi _) (by first | decide | omega)) (fun q => ⟨trivial, ⟨trivial, trivial, q⟩⟩) rfl)
theorem y_beat (n : Nat) : S_beat (callF P (n + 1)) := by
  intro   league' a' b' r h
  exact (callF_at (P := P) (n := n + 0) (fi := 11) (d := d_beat) rfl _).trans (ev_beat (cf := callF P (n + 0)) league' a' b' r h)

/-! wins -/
noncomputable def T_wins (league' : (List (List Nat))) : Option (List Nat) := finO (lam := Unit) (σ := Unit) ((gu (league'.length ≤ sizeLine) (.rt (league'.map (fun (a1 : (List Nat)) => a1.length))))) (fun _ => none)
def S_wins (cf : CF) : Prop := ∀ (league' : (List (List Nat))) (r : (List Nat)), T_wins league' = some r → cf 12 [iF (tpD (tpD nD)) league'] = .ok ((fun r : (List Nat) => iF (tpD nD) r) r) ((fun r : (List Nat) => []) r)
theorem ev_wins {cf : CF} (league' : (List (List Nat))) (r : (List Nat)) (h : T_wins league' = some r) : runB d_wins.np d_wins.ns d_wins.io (b_wins cf) [iF (tpD (tpD nD)) league'] = .ok ((fun r : (List Nat) => iF (tpD nD) r) r) ((fun r : (List Nat) => []) r) := by
  unfold T_wins at h
  refine fn_ok (k := (fun _ => none)) (io := []) (lam := Unit) (Λ := fun _ => []) (R := (fun r : (List Nat) => iF (tpD nD) r)) (O := (fun r : (List Nat) => [])) (Φ := (fun _ : Unit => [])) (Γ := [.is (iF (tpD (tpD nD)) league'), .cl]) ?_ rfl rfl (nla_c rfl nla_n) (fun r => rfl) (fun r => go_n) (by intro _ _ z; cases z) h
  unfold b_wins
  exact
   (tb_ret (te_tupL (te_lc (K := iF nD) (ti_T (te_v rfl)) (fun (a1 : (List Nat)) => tg_nm) (fun (a1 : (List Nat)) => (te_lenT (te_v rfl) (vi _))) (fun (a1 : (List Nat)) => (wk_s (wk_a wk_n))) (Cn.c rfl Cn.n)) (vl _)) (fun q => ⟨trivial, ⟨q, (fun a1 a1m => trivial)⟩⟩) rfl)
theorem y_wins (n : Nat) : S_wins (callF P (n + 1)) := by
  intro   league' r h
  exact (callF_at (P := P) (n := n + 0) (fi := 12) (d := d_wins) rfl _).trans (ev_wins (cf := callF P (n + 0)) league' r h)

/-! _law_count -/
noncomputable def T__law_count (league' : (List (List Nat))) : Option Int := finO (lam := Unit) (σ := Unit) ((lt league'.length fun n_1 => (gu (((MO ((n_1 : Nat) : Int) (((n_1 : Nat) : Int) - (1 : Int))) ∧ (MO (((n_1 : Nat) : Int) * (((n_1 : Nat) : Int) - (1 : Int))) (((n_1 : Nat) : Int) - (2 : Int)))) ∧ ((league'.length ≤ sizeLine) ∧ (∀ a2 ∈ league', (MO ((a2.length : Nat) : Int) (((a2.length : Nat) : Int) - (1 : Int)))))) (.rt ((((((n_1 : Nat) : Int) * (((n_1 : Nat) : Int) - (1 : Int))) * (((n_1 : Nat) : Int) - (2 : Int))) / 6) - (league'.map (fun (a2 : (List Nat)) => ((((a2.length : Nat) : Int) * (((a2.length : Nat) : Int) - (1 : Int))) / 2))).sum))))) (fun _ => none)
def S__law_count (cf : CF) : Prop := ∀ (league' : (List (List Nat))) (r : Int), T__law_count league' = some r → cf 18 [iF (tpD (tpD nD)) league'] = .ok ((fun r : Int => iF zD r) r) ((fun r : Int => []) r)
theorem ev__law_count {cf : CF} (league' : (List (List Nat))) (r : Int) (h : T__law_count league' = some r) : runB d__law_count.np d__law_count.ns d__law_count.io (b__law_count cf) [iF (tpD (tpD nD)) league'] = .ok ((fun r : Int => iF zD r) r) ((fun r : Int => []) r) := by
  unfold T__law_count at h
  refine fn_ok (k := (fun _ => none)) (io := []) (lam := Unit) (Λ := fun _ => []) (R := (fun r : Int => iF zD r)) (O := (fun r : Int => [])) (Φ := (fun _ : Unit => [])) (Γ := [.is (iF (tpD (tpD nD)) league'), .cl, .cl]) ?_ rfl rfl (nla_c rfl nla_n) (fun r => rfl) (fun r => go_n) (by intro _ _ z; cases z) h
  unfold b__law_count
  exact
   (tb_0 (tb_set (K := iF nD) (te_lenT (te_v rfl) (vi _)) (fun q => trivial) (fun n_1 =>
 (tb_ret (te_subZ (te_divZc (te_mulZ (te_mulZ (te_nz (te_v rfl)) (te_subZ (te_nz (te_v rfl)) (te_nz (te_cN 1)))) (te_subZ (te_nz (te_v rfl)) (te_nz (te_cN 2)))) (te_cN 6) (by decide) (by decide)) (te_sumZ (te_lc (K := iF zD) (ti_T (te_v rfl)) (fun (a2 : (List Nat)) => tg_nm) (fun (a2 : (List Nat)) => (te_divZc (te_mulZ (te_nz (te_lenT (te_v rfl) (vi _))) (te_subZ (te_nz (te_lenT (te_v rfl) (vi _))) (te_nz (te_cN 1)))) (te_cN 2) (by decide) (by decide))) (fun (a2 : (List Nat)) => (wk_s (wk_s (wk_a wk_n)))) (Cn.c rfl Cn.n)) (vl _))) (fun q => ⟨⟨⟨⟨trivial, ⟨trivial, trivial⟩, q.1.1⟩, ⟨trivial, trivial⟩, q.1.2⟩, trivial⟩, ⟨trivial, ⟨q.2.1, (fun a2 a2m => ⟨⟨trivial, ⟨trivial, trivial⟩, (q.2.2 a2 a2m)⟩, trivial⟩)⟩⟩⟩) rfl)) rfl))
theorem y__law_count (n : Nat) : S__law_count (callF P (n + 1)) := by
  intro   league' r h
  exact (callF_at (P := P) (n := n + 0) (fi := 18) (d := d__law_count) rfl _).trans (ev__law_count (cf := callF P (n + 0)) league' r h)

/-! _law_kind -/
noncomputable def T__law_kind (rows' : (List (List Nat))) (a' : Nat) (b' : Nat) : Option Str := finO (lam := Unit) (σ := Unit) ((((gu ((a' < rows'.length) ∧ (b' < rows'.length)) (if (decide ((rows'.getD a' default).length = (rows'.getD b' default).length)) then (.rt ("rise" : Str)) else (.nx ()))) : Out _ _ Unit).bind fun _ =>
 (gu (a' < rows'.length) (lt (if (decide (b' ∈ (rows'.getD a' default))) then (a', b') else (b', a')) fun p4 => (gu ((p4.1 < rows'.length) ∧ (p4.2 < rows'.length)) (.rt (if (decide ((rows'.getD p4.1 default).length = ((rows'.getD p4.2 default).length + 2))) then ("fall" : Str) else ("none" : Str)))))))) (fun _ => none)
def S__law_kind (cf : CF) : Prop := ∀ (rows' : (List (List Nat))) (a' : Nat) (b' : Nat) (r : Str), T__law_kind rows' a' b' = some r → cf 20 [iF (lsD (lsD nD)) rows', iF nD a', iF nD b'] = .ok ((fun r : Str => iF sD r) r) ((fun r : Str => []) r)
theorem ev__law_kind {cf : CF} (rows' : (List (List Nat))) (a' : Nat) (b' : Nat) (r : Str) (h : T__law_kind rows' a' b' = some r) : runB d__law_kind.np d__law_kind.ns d__law_kind.io (b__law_kind cf) [iF (lsD (lsD nD)) rows', iF nD a', iF nD b'] = .ok ((fun r : Str => iF sD r) r) ((fun r : Str => []) r) := by
  unfold T__law_kind at h
  refine fn_ok (k := (fun _ => none)) (io := []) (lam := Unit) (Λ := fun _ => []) (R := (fun r : Str => iF sD r)) (O := (fun r : Str => [])) (Φ := (fun _ : Unit => [])) (Γ := [.is (iF (lsD (lsD nD)) rows'), .is (iF nD a'), .is (iF nD b'), .cl, .cl]) ?_ rfl rfl (nla_c rfl (nla_c rfl (nla_c rfl nla_n))) (fun r => rfl) (fun r => go_n) (by intro _ _ z; cases z) h
  unfold b__law_kind
  exact
   (tb_seq (S := (fun (_ : Unit) => [.is (iF (lsD (lsD nD)) rows'), .is (iF nD a'), .is (iF nD b'), .cl, .cl])) (tb_if (tt (te_eq (D := nD) (te_lenL (te_ixI (te_v rfl) (te_v rfl)) (vi _)) (te_lenL (te_ixI (te_v rfl) (te_v rfl)) (vi _)) (vi _) (vi _) (by first | decide | omega))) (fun q => ⟨⟨trivial, trivial, q.1⟩, ⟨trivial, trivial, q.2⟩⟩)
 (tb_0 (tb_ret (te_cS "rise") (fun q => trivial) rfl))
 (tb_nil (wk_s (wk_s (wk_s (wk_s (wk_s wk_n))))))) (fun _ =>
 (tb_asg (P := (p2D nD nD)) (te_ite (K := iF (p2D nD nD)) (te_inL (D := nD) (te_v rfl) (te_ixI (te_v rfl) (te_v rfl)) (vi _) (vi _) (by first | decide | omega)) (te_tp2 (ta_c (te_v rfl) (ta_c (te_v rfl) ta_n))) (te_tp2 (ta_c (te_v rfl) (ta_c (te_v rfl) ta_n)))) (fun q => ⟨⟨trivial, ⟨trivial, trivial, q⟩⟩, (fun q2 => ⟨trivial, ⟨trivial, trivial⟩⟩), (fun q3 => ⟨trivial, ⟨trivial, trivial⟩⟩)⟩) (fun p4 => (tg_2 tg_nm tg_nm)) (fun p4 =>
 (tb_ret (te_ite (K := iF sD) (te_eq (D := nD) (te_lenL (te_ixI (te_v rfl) (te_v rfl)) (vi _)) (te_addN (te_lenL (te_ixI (te_v rfl) (te_v rfl)) (vi _)) (te_cN 2)) (vi _) (vi _) (by first | decide | omega)) (te_cS "fall") (te_cS "none")) (fun q => ⟨⟨⟨trivial, trivial, q.1⟩, ⟨⟨trivial, trivial, q.2⟩, trivial⟩⟩, (fun q5 => trivial), (fun q6 => trivial)⟩) rfl)))))
theorem y__law_kind (n : Nat) : S__law_kind (callF P (n + 1)) := by
  intro   rows' a' b' r h
  exact (callF_at (P := P) (n := n + 0) (fi := 20) (d := d__law_kind) rfl _).trans (ev__law_kind (cf := callF P (n + 0)) rows' a' b' r h)

/-! ranking -/
noncomputable def T_ranking (order' : (List Nat)) : Option (List (List Nat)) := finO (lam := Unit) (σ := Unit) ((gu ((order'.length < 2 ^ 62) ∧ (((List.range order'.length).length ≤ sizeLine) ∧ (∀ a1 ∈ (List.range order'.length), ((a1 ∈ order') ∧ ((MP.cutD order' (some ((((order'.idxOf a1) + 1) : Nat) : Int)) (none : Option Int)).length ≤ sizeLine))))) (.rt ((List.range order'.length).map (fun (a1 : Nat) => ((MP.cutD order' (some ((((order'.idxOf a1) + 1) : Nat) : Int)) (none : Option Int)).mergeSort (leD nD))))))) (fun _ => none)
def S_ranking (cf : CF) : Prop := ∀ (order' : (List Nat)) (r : (List (List Nat))), T_ranking order' = some r → cf 24 [iF (tpD nD) order'] = .ok ((fun r : (List (List Nat)) => iF (tpD (tpD nD)) r) r) ((fun r : (List (List Nat)) => []) r)
theorem ev_ranking {cf : CF} (order' : (List Nat)) (r : (List (List Nat))) (h : T_ranking order' = some r) : runB d_ranking.np d_ranking.ns d_ranking.io (b_ranking cf) [iF (tpD nD) order'] = .ok ((fun r : (List (List Nat)) => iF (tpD (tpD nD)) r) r) ((fun r : (List (List Nat)) => []) r) := by
  unfold T_ranking at h
  refine fn_ok (k := (fun _ => none)) (io := []) (lam := Unit) (Λ := fun _ => []) (R := (fun r : (List (List Nat)) => iF (tpD (tpD nD)) r)) (O := (fun r : (List (List Nat)) => [])) (Φ := (fun _ : Unit => [])) (Γ := [.is (iF (tpD nD) order'), .cl]) ?_ rfl rfl (nla_c rfl nla_n) (fun r => rfl) (fun r => go_n) (by intro _ _ z; cases z) h
  unfold b_ranking
  exact
   (tb_ret (te_tupL (te_lc (K := iF (tpD nD)) (ti_r1 (ta_c (te_lenT (te_v rfl) (vi _)) ta_n)) (fun (a1 : Nat) => tg_nm) (fun (a1 : Nat) => (te_tupL (te_sortedT (te_slT (te_v rfl) (to_N (te_addN (te_index (te_v rfl) (ta_c (te_v rfl) ta_n) rfl) (te_cN 1))) to_n) (vi _)) (vl _))) (fun (a1 : Nat) => (wk_s (wk_a wk_n))) (Cn.c rfl Cn.n)) (vl _)) (fun q => ⟨⟨⟨trivial, trivial⟩, q.1⟩, ⟨q.2.1, (fun a1 a1m => ⟨⟨trivial, ⟨⟨trivial, ⟨trivial, trivial⟩, (q.2.2 a1 a1m).1⟩, trivial⟩, trivial⟩, (q.2.2 a1 a1m).2⟩)⟩⟩) rfl)
theorem y_ranking (n : Nat) : S_ranking (callF P (n + 1)) := by
  intro   order' r h
  exact (callF_at (P := P) (n := n + 0) (fi := 24) (d := d_ranking) rfl _).trans (ev_ranking (cf := callF P (n + 0)) order' r h)

/-! order_sign -/
noncomputable def T_order_sign (order' : (List Nat)) : Option Nat := finO (lam := Unit) (σ := Unit) ((lt 0 fun found_1 => ((forO (fun (a2 : (Nat × Nat)) (s3 : Nat) =>
 (gu ((MP.cutD order' (some (((a2.1 + 1) : Nat) : Int)) (none : Option Int)).length ≤ sizeLine) (.nx (s3 + (((MP.cutD order' (some (((a2.1 + 1) : Nat) : Int)) (none : Option Int)).filter fun (a4 : Nat) => (decide (a4 < a2.2))).map (fun (a4 : Nat) => a4)).length)))) (enT 0 order') found_1).bind fun s7 =>
 (.rt (s7 % 2))))) (fun _ => none)
def S_order_sign (cf : CF) : Prop := ∀ (order' : (List Nat)) (r : Nat), T_order_sign order' = some r → cf 27 [iF (tpD nD) order'] = .ok ((fun r : Nat => iF nD r) r) ((fun r : Nat => []) r)
theorem ev_order_sign {cf : CF} (order' : (List Nat)) (r : Nat) (h : T_order_sign order' = some r) : runB d_order_sign.np d_order_sign.ns d_order_sign.io (b_order_sign cf) [iF (tpD nD) order'] = .ok ((fun r : Nat => iF nD r) r) ((fun r : Nat => []) r) := by
  unfold T_order_sign at h
  refine fn_ok (k := (fun _ => none)) (io := []) (lam := Unit) (Λ := fun _ => []) (R := (fun r : Nat => iF nD r)) (O := (fun r : Nat => [])) (Φ := (fun _ : Unit => [])) (Γ := [.is (iF (tpD nD) order'), .cl, .cl, .cl, .cl]) ?_ rfl rfl (nla_c rfl nla_n) (fun r => rfl) (fun r => go_n) (by intro _ _ z; cases z) h
  unfold b_order_sign
  exact
   (tb_0 (tb_set (K := iF nD) (te_cN 0) (fun q => trivial) (fun found_1 =>
 (tb_seq (S := (fun (s3 : Nat) => [.is (iF (tpD nD) order'), .is (iF nD s3), .cl, .cl, .cl])) (tb_0 (tb_for (S := (fun (s3 : Nat) => [.is (iF (tpD nD) order'), .is (iF nD s3), .cl, .cl, .cl])) (ti_enT (ta_c (te_v rfl) ta_n)) (fun q => ⟨trivial, trivial⟩) (wk_s (wk_s (wk_s (wk_s (wk_s wk_n))))) (fun a2 s3 => (tg_2 tg_nm tg_nm)) (fun a2 s3 =>
 (tb_one (ts_set (te_addN (te_v rfl) (te_lenL (te_lcp (K := iF nD) (ti_T (te_slT (te_v rfl) (to_N (te_addN (te_v rfl) (te_cN 1))) to_n)) (fun (a4 : Nat) => tg_nm) (fun (a4 : Nat) => tt (te_ltN (te_v rfl) (te_v rfl))) (fun (a4 : Nat) => (te_v rfl)) (fun (a4 : Nat) => (wk_s (wk_s (wk_s (wk_s (wk_a wk_n)))))) (Cn.c rfl Cn.n)) (vl _))) NlV.nl rfl) (fun q => ⟨trivial, ⟨⟨trivial, ⟨trivial, trivial⟩, trivial⟩, ⟨q, (fun a4 a4m => ⟨⟨trivial, trivial⟩, (fun q5 => trivial)⟩)⟩⟩⟩) (wk_s (wk_s (wk_c (wk_c (wk_s wk_n))))))))) (fun s7 =>
 (tb_0 (tb_ret (te_modNc (te_v rfl) (te_cN 2) (by decide)) (fun q => ⟨trivial, trivial⟩) rfl))))) rfl))
theorem y_order_sign (n : Nat) : S_order_sign (callF P (n + 1)) := by
  intro   order' r h
  exact (callF_at (P := P) (n := n + 0) (fi := 27) (d := d_order_sign) rfl _).trans (ev_order_sign (cf := callF P (n + 0)) order' r h)

/-! _law_odd_pairs -/
noncomputable def T__law_odd_pairs (order' : (List Nat)) : Option Nat := finO (lam := Unit) (σ := Unit) ((lt 0 fun found_1 => ((forO (fun (a2 : (Nat × Nat)) (s3 : Nat) =>
 (gu ((MP.cutD order' (some (((a2.1 + 1) : Nat) : Int)) (none : Option Int)).length ≤ sizeLine) (.nx (s3 + (((MP.cutD order' (some (((a2.1 + 1) : Nat) : Int)) (none : Option Int)).filter fun (a4 : Nat) => (decide (a4 < a2.2))).map (fun (a4 : Nat) => a4)).length)))) (enT 0 order') found_1).bind fun s7 =>
 (.rt (s7 % 2))))) (fun _ => none)
def S__law_odd_pairs (cf : CF) : Prop := ∀ (order' : (List Nat)) (r : Nat), T__law_odd_pairs order' = some r → cf 28 [iF (tpD nD) order'] = .ok ((fun r : Nat => iF nD r) r) ((fun r : Nat => []) r)
theorem ev__law_odd_pairs {cf : CF} (order' : (List Nat)) (r : Nat) (h : T__law_odd_pairs order' = some r) : runB d__law_odd_pairs.np d__law_odd_pairs.ns d__law_odd_pairs.io (b__law_odd_pairs cf) [iF (tpD nD) order'] = .ok ((fun r : Nat => iF nD r) r) ((fun r : Nat => []) r) := by
  unfold T__law_odd_pairs at h
  refine fn_ok (k := (fun _ => none)) (io := []) (lam := Unit) (Λ := fun _ => []) (R := (fun r : Nat => iF nD r)) (O := (fun r : Nat => [])) (Φ := (fun _ : Unit => [])) (Γ := [.is (iF (tpD nD) order'), .cl, .cl, .cl, .cl]) ?_ rfl rfl (nla_c rfl nla_n) (fun r => rfl) (fun r => go_n) (by intro _ _ z; cases z) h
  unfold b__law_odd_pairs
  exact
   (tb_0 (tb_set (K := iF nD) (te_cN 0) (fun q => trivial) (fun found_1 =>
 (tb_seq (S := (fun (s3 : Nat) => [.is (iF (tpD nD) order'), .is (iF nD s3), .cl, .cl, .cl])) (tb_0 (tb_for (S := (fun (s3 : Nat) => [.is (iF (tpD nD) order'), .is (iF nD s3), .cl, .cl, .cl])) (ti_enT (ta_c (te_v rfl) ta_n)) (fun q => ⟨trivial, trivial⟩) (wk_s (wk_s (wk_s (wk_s (wk_s wk_n))))) (fun a2 s3 => (tg_2 tg_nm tg_nm)) (fun a2 s3 =>
 (tb_one (ts_set (te_addN (te_v rfl) (te_lenL (te_lcp (K := iF nD) (ti_T (te_slT (te_v rfl) (to_N (te_addN (te_v rfl) (te_cN 1))) to_n)) (fun (a4 : Nat) => tg_nm) (fun (a4 : Nat) => tt (te_ltN (te_v rfl) (te_v rfl))) (fun (a4 : Nat) => (te_v rfl)) (fun (a4 : Nat) => (wk_s (wk_s (wk_s (wk_s (wk_a wk_n)))))) (Cn.c rfl Cn.n)) (vl _))) NlV.nl rfl) (fun q => ⟨trivial, ⟨⟨trivial, ⟨trivial, trivial⟩, trivial⟩, ⟨q, (fun a4 a4m => ⟨⟨trivial, trivial⟩, (fun q5 => trivial)⟩)⟩⟩⟩) (wk_s (wk_s (wk_c (wk_c (wk_s wk_n))))))))) (fun s7 =>
 (tb_0 (tb_ret (te_modNc (te_intN (te_v rfl)) (te_cN 2) (by decide)) (fun q => ⟨trivial, trivial⟩) rfl))))) rfl))
theorem y__law_odd_pairs (n : Nat) : S__law_odd_pairs (callF P (n + 1)) := by
  intro   order' r h
  exact (callF_at (P := P) (n := n + 0) (fi := 28) (d := d__law_odd_pairs) rfl _).trans (ev__law_odd_pairs (cf := callF P (n + 0)) order' r h)

/-! _law_mixed -/
noncomputable def T__law_mixed {αa : Type} [Inhabited αa] [DecidableEq αa] (Da : αa → PyData) (jar' : Jar) (row' : (List αa)) : Option ((List αa) × Jar) := finO (lam := Unit) (σ := Unit) ((lt row' fun left_1 => (lt ([] : (List αa)) fun found_2 => ((whlO (fun (s3 : (Jar × (List αa) × (List αa))) => True) (fun s3 => (decide (s3.2.1 ≠ ([] : (List αa))))) (fun s3 =>
 (bo (T__law_draw s3.1 s3.2.1.length) fun r4 =>
 (gu ((r4.1 < s3.2.1.length ∧ s3.2.1.length ≤ 2 ^ 62) ∧ (s3.2.2.length < sizeLine)) (.nx (r4.2, (s3.2.1.eraseIdx r4.1), (s3.2.2 ++ [(s3.2.1.getD r4.1 default)])))))) fuel (jar', left_1, found_2)).bind fun s5 =>
 (.rt (s5.2.2, s5.1)))))) (fun _ => none)
def S__law_mixed (cf : CF) : Prop := ∀ {αa : Type} [Inhabited αa] [DecidableEq αa] (Da : αa → PyData) {na : Nat} [ImD Da] [EqD Da] [DpD Da na] (ha : na ≤ 30) (jar' : Jar) (row' : (List αa)) (r : ((List αa) × Jar)), T__law_mixed Da jar' row' = some r → cf 2 [Jar.lv jar', iF (lsD Da) row'] = .ok ((fun r : ((List αa) × Jar) => lF (iF Da) r.1) r) ((fun r : ((List αa) × Jar) => [Jar.lv r.2]) r)
theorem ev__law_mixed {cf : CF} (S__law_draw : S__law_draw cf) {αa : Type} [Inhabited αa] [DecidableEq αa] (Da : αa → PyData) {na : Nat} [ImD Da] [EqD Da] [DpD Da na] (ha : na ≤ 30) (jar' : Jar) (row' : (List αa)) (r : ((List αa) × Jar)) (h : T__law_mixed Da jar' row' = some r) : runB d__law_mixed.np d__law_mixed.ns d__law_mixed.io (b__law_mixed cf) [Jar.lv jar', iF (lsD Da) row'] = .ok ((fun r : ((List αa) × Jar) => lF (iF Da) r.1) r) ((fun r : ((List αa) × Jar) => [Jar.lv r.2]) r) := by
  unfold T__law_mixed at h
  refine fn_ok (k := (fun _ => none)) (io := [0]) (lam := Unit) (Λ := fun _ => []) (R := (fun r : ((List αa) × Jar) => lF (iF Da) r.1)) (O := (fun r : ((List αa) × Jar) => [Jar.lv r.2])) (Φ := (fun _ : Unit => [])) (Γ := [.is (Jar.lv jar'), .is (iF (lsD Da) row'), .cl, .cl]) ?_ rfl rfl (nla_c (jar_nl _) (nla_c rfl nla_n)) (fun r => (gi_l _)) (fun r => (go_c (jar_giv1 _) go_n)) (by intro _ _ z; cases z) h
  unfold b__law_mixed
  exact
   (tb_0 (tb_par2 (K := lF (iF Da)) (K2 := lF (iF Da)) (ta_c (te_lstL (te_v rfl) (vi _)) (ta_c (te_ls0 (iF Da)) ta_n)) (fun q => ⟨trivial, ⟨trivial, trivial⟩⟩) (fun left_1 found_2 =>
 (tb_seq (S := (fun (s3 : (Jar × (List αa) × (List αa))) => [.is (Jar.lv s3.1), .is (iF (lsD Da) row'), .is (lF (iF Da) s3.2.1), .is (lF (iF Da) s3.2.2)])) (tb_whl (S := (fun (s3 : (Jar × (List αa) × (List αa))) => [.is (Jar.lv s3.1), .is (iF (lsD Da) row'), .is (lF (iF Da) s3.2.1), .is (lF (iF Da) s3.2.2)])) (wk_s (wk_s (wk_s (wk_s wk_n)))) (fun s3 => tt (te_w (te_ne (D := (lsD Da)) (te_vl rfl) (te_ls0 (iF Da)) (vn _) (vl _) (by first | decide | omega)) (fun q => ⟨trivial, trivial⟩))) (fun s3 =>
 (tb_bo (fun r4 hr4 => (tb_one (ts_ex (te_app rfl (ta_c (te_pop rfl (ta_c (te_k1 (K := iF nD) (B := Jar.lv) (r := r4) (tc_s (tc_i (te_lenL (te_vl rfl) (vn _)) tc_n) rfl rfl (jar_giv _)) (S__law_draw s3.1 s3.2.1.length r4)) ta_n) rfl) ta_n) rfl)) (fun q => ⟨⟨⟨⟨⟨⟨trivial, trivial⟩, hr4⟩, trivial⟩, q.1⟩, trivial⟩, q.2⟩) (wk_s (wk_s (wk_s (wk_s wk_n))))))))) (fun s5 =>
 (tb_0 (tb_ret (te_take rfl) (fun q => trivial) rfl))))) rfl rfl))
theorem y__law_mixed (n : Nat) : S__law_mixed (callF P (n + 2)) := by
  intro αa _ _ Da na _ _ _ ha jar' row' r h
  exact (callF_at (P := P) (n := n + 1) (fi := 2) (d := d__law_mixed) rfl _).trans (ev__law_mixed (cf := callF P (n + 1)) (y__law_draw (n + 0)) Da ha jar' row' r h)

/-! _law_pick -/
noncomputable def T__law_pick {αa : Type} [Inhabited αa] [DecidableEq αa] (Da : αa → PyData) (jar' : Jar) (row' : (List αa)) : Option (αa × Jar) := finO (lam := Unit) (σ := Unit) ((bo (T__law_draw jar' row'.length) fun r1 =>
 (gu (r1.1 < row'.length) (.rt ((row'.getD r1.1 default), r1.2))))) (fun _ => none)
def S__law_pick (cf : CF) : Prop := ∀ {αa : Type} [Inhabited αa] [DecidableEq αa] (Da : αa → PyData) {na : Nat} [ImD Da] [EqD Da] [DpD Da na] (ha : na ≤ 30) (jar' : Jar) (row' : (List αa)) (r : (αa × Jar)), T__law_pick Da jar' row' = some r → cf 6 [Jar.lv jar', iF (lsD Da) row'] = .ok ((fun r : (αa × Jar) => iF Da r.1) r) ((fun r : (αa × Jar) => [Jar.lv r.2]) r)
theorem ev__law_pick {cf : CF} (S__law_draw : S__law_draw cf) {αa : Type} [Inhabited αa] [DecidableEq αa] (Da : αa → PyData) {na : Nat} [ImD Da] [EqD Da] [DpD Da na] (ha : na ≤ 30) (jar' : Jar) (row' : (List αa)) (r : (αa × Jar)) (h : T__law_pick Da jar' row' = some r) : runB d__law_pick.np d__law_pick.ns d__law_pick.io (b__law_pick cf) [Jar.lv jar', iF (lsD Da) row'] = .ok ((fun r : (αa × Jar) => iF Da r.1) r) ((fun r : (αa × Jar) => [Jar.lv r.2]) r) := by
  unfold T__law_pick at h
  refine fn_ok (k := (fun _ => none)) (io := [0]) (lam := Unit) (Λ := fun _ => []) (R := (fun r : (αa × Jar) => iF Da r.1)) (O := (fun r : (αa × Jar) => [Jar.lv r.2])) (Φ := (fun _ : Unit => [])) (Γ := [.is (Jar.lv jar'), .is (iF (lsD Da) row')]) ?_ rfl rfl (nla_c (jar_nl _) (nla_c rfl nla_n)) (fun r => rfl) (fun r => (go_c (jar_giv1 _) go_n)) (by intro _ _ z; cases z) h
  unfold b__law_pick
  exact
   (tb_bo (fun r1 hr1 => (tb_ret (te_ixI (te_v rfl) (te_k1 (K := iF nD) (B := Jar.lv) (r := r1) (tc_s (tc_i (te_lenL (te_v rfl) (vi _)) tc_n) rfl rfl (jar_giv _)) (S__law_draw jar' row'.length r1))) (fun q => ⟨trivial, ⟨⟨trivial, trivial⟩, hr1⟩, q⟩) rfl)))
theorem y__law_pick (n : Nat) : S__law_pick (callF P (n + 2)) := by
  intro αa _ _ Da na _ _ _ ha jar' row' r h
  exact (callF_at (P := P) (n := n + 1) (fi := 6) (d := d__law_pick) rfl _).trans (ev__law_pick (cf := callF P (n + 1)) (y__law_draw (n + 0)) Da ha jar' row' r h)

/-! ring_count -/
noncomputable def T_ring_count (league' : (List (List Nat))) : Option Int := finO (lam := Unit) (σ := Unit) ((lt league'.length fun n_1 => (bo (T_wins league') fun r2 =>
 (gu (((MO ((n_1 : Nat) : Int) (((n_1 : Nat) : Int) - (1 : Int))) ∧ (MO (((n_1 : Nat) : Int) * (((n_1 : Nat) : Int) - (1 : Int))) (((n_1 : Nat) : Int) - (2 : Int)))) ∧ ((r2.length ≤ sizeLine) ∧ (∀ a3 ∈ r2, (MO ((a3 : Nat) : Int) (((a3 : Nat) : Int) - (1 : Int)))))) (.rt ((((((n_1 : Nat) : Int) * (((n_1 : Nat) : Int) - (1 : Int))) * (((n_1 : Nat) : Int) - (2 : Int))) / 6) - (r2.map (fun (a3 : Nat) => ((((a3 : Nat) : Int) * (((a3 : Nat) : Int) - (1 : Int))) / 2))).sum)))))) (fun _ => none)
def S_ring_count (cf : CF) : Prop := ∀ (league' : (List (List Nat))) (r : Int), T_ring_count league' = some r → cf 14 [iF (tpD (tpD nD)) league'] = .ok ((fun r : Int => iF zD r) r) ((fun r : Int => []) r)
theorem ev_ring_count {cf : CF} (S_wins : S_wins cf) (league' : (List (List Nat))) (r : Int) (h : T_ring_count league' = some r) : runB d_ring_count.np d_ring_count.ns d_ring_count.io (b_ring_count cf) [iF (tpD (tpD nD)) league'] = .ok ((fun r : Int => iF zD r) r) ((fun r : Int => []) r) := by
  unfold T_ring_count at h
  refine fn_ok (k := (fun _ => none)) (io := []) (lam := Unit) (Λ := fun _ => []) (R := (fun r : Int => iF zD r)) (O := (fun r : Int => [])) (Φ := (fun _ : Unit => [])) (Γ := [.is (iF (tpD (tpD nD)) league'), .cl, .cl]) ?_ rfl rfl (nla_c rfl nla_n) (fun r => rfl) (fun r => go_n) (by intro _ _ z; cases z) h
  unfold b_ring_count
  exact
   (tb_0 (tb_set (K := iF nD) (te_lenT (te_v rfl) (vi _)) (fun q => trivial) (fun n_1 =>
 (tb_bo (fun r2 hr2 => (tb_ret (te_subZ (te_divZc (te_mulZ (te_mulZ (te_nz (te_v rfl)) (te_subZ (te_nz (te_v rfl)) (te_nz (te_cN 1)))) (te_subZ (te_nz (te_v rfl)) (te_nz (te_cN 2)))) (te_cN 6) (by decide) (by decide)) (te_sumZ (te_lc (K := iF zD) (ti_T (te_k0 (K := iF (tpD nD)) (r := r2) (tc_i (te_v rfl) tc_n) (S_wins league' r2) (.inl rfl))) (fun (a3 : Nat) => tg_nm) (fun (a3 : Nat) => (te_divZc (te_mulZ (te_nz (te_v rfl)) (te_subZ (te_nz (te_v rfl)) (te_nz (te_cN 1)))) (te_cN 2) (by decide) (by decide))) (fun (a3 : Nat) => (wk_s (wk_s (wk_a wk_n)))) (Cn.c rfl Cn.n)) (vl _))) (fun q => ⟨⟨⟨⟨trivial, ⟨trivial, trivial⟩, q.1.1⟩, ⟨trivial, trivial⟩, q.1.2⟩, trivial⟩, ⟨⟨⟨trivial, trivial⟩, hr2⟩, ⟨q.2.1, (fun a3 a3m => ⟨⟨trivial, ⟨trivial, trivial⟩, (q.2.2 a3 a3m)⟩, trivial⟩)⟩⟩⟩) rfl)))) rfl))
theorem y_ring_count (n : Nat) : S_ring_count (callF P (n + 2)) := by
  intro   league' r h
  exact (callF_at (P := P) (n := n + 1) (fi := 14) (d := d_ring_count) rfl _).trans (ev_ring_count (cf := callF P (n + 1)) (y_wins (n + 0)) league' r h)

/-! _law_sign -/
noncomputable def T__law_sign (league' : (List (List Nat))) : Option Nat := finO (lam := Unit) (σ := Unit) ((gu (((enT 0 league').length ≤ sizeLine) ∧ (∀ a1 ∈ (enT 0 league'), (a1.2.length ≤ sizeLine))) (lt ((enT 0 league').map (fun (a1 : (Nat × (List Nat))) => ((a1.2.filter fun (a2 : Nat) => (decide (a2 < a1.1))).map (fun (a2 : Nat) => a2)).length)).sum fun upward_4 => (bo (T__law_count league') fun r5 =>
 (.rt ((((upward_4 : Nat) : Int) + r5) % 2).toNat))))) (fun _ => none)
def S__law_sign (cf : CF) : Prop := ∀ (league' : (List (List Nat))) (r : Nat), T__law_sign league' = some r → cf 21 [iF (tpD (tpD nD)) league'] = .ok ((fun r : Nat => iF nD r) r) ((fun r : Nat => []) r)
theorem ev__law_sign {cf : CF} (S__law_count : S__law_count cf) (league' : (List (List Nat))) (r : Nat) (h : T__law_sign league' = some r) : runB d__law_sign.np d__law_sign.ns d__law_sign.io (b__law_sign cf) [iF (tpD (tpD nD)) league'] = .ok ((fun r : Nat => iF nD r) r) ((fun r : Nat => []) r) := by
  unfold T__law_sign at h
  refine fn_ok (k := (fun _ => none)) (io := []) (lam := Unit) (Λ := fun _ => []) (R := (fun r : Nat => iF nD r)) (O := (fun r : Nat => [])) (Φ := (fun _ : Unit => [])) (Γ := [.is (iF (tpD (tpD nD)) league'), .cl, .cl, .cl, .cl]) ?_ rfl rfl (nla_c rfl nla_n) (fun r => rfl) (fun r => go_n) (by intro _ _ z; cases z) h
  unfold b__law_sign
  exact
   (tb_set (K := iF nD) (te_sumN (te_lc (K := iF nD) (ti_enT (ta_c (te_v rfl) ta_n)) (fun (a1 : (Nat × (List Nat))) => (tg_2 tg_nm tg_nm)) (fun (a1 : (Nat × (List Nat))) => (te_lenL (te_lcp (K := iF nD) (ti_T (te_v rfl)) (fun (a2 : Nat) => tg_nm) (fun (a2 : Nat) => tt (te_ltN (te_v rfl) (te_v rfl))) (fun (a2 : Nat) => (te_v rfl)) (fun (a2 : Nat) => (wk_s (wk_s (wk_s (wk_s (wk_a wk_n)))))) (Cn.c rfl Cn.n)) (vl _))) (fun (a1 : (Nat × (List Nat))) => (wk_s (wk_s (wk_a (wk_a (wk_s wk_n)))))) (Cn.c rfl (Cn.c rfl Cn.n))) (vl _)) (fun q => ⟨⟨trivial, trivial⟩, ⟨q.1, (fun a1 a1m => ⟨trivial, ⟨(q.2 a1 a1m), (fun a2 a2m => ⟨⟨trivial, trivial⟩, (fun q3 => trivial)⟩)⟩⟩)⟩⟩) (fun upward_4 =>
 (tb_bo (fun r5 hr5 => (tb_0 (tb_ret (te_modZcN (te_intZ (te_addZ (te_nz (te_v rfl)) (te_k0 (K := iF zD) (r := r5) (tc_i (te_v rfl) tc_n) (S__law_count league' r5) (.inl rfl)))) (te_cN 2) (by decide)) (fun q => ⟨⟨trivial, ⟨⟨trivial, trivial⟩, hr5⟩⟩, trivial⟩) rfl))))) rfl)
theorem y__law_sign (n : Nat) : S__law_sign (callF P (n + 2)) := by
  intro   league' r h
  exact (callF_at (P := P) (n := n + 1) (fi := 21) (d := d__law_sign) rfl _).trans (ev__law_sign (cf := callF P (n + 1)) (y__law_count (n + 0)) league' r h)

/-! _law_ranking -/
noncomputable def T__law_ranking (order' : (List Nat)) : Option (List (List Nat)) := finO (lam := Unit) (σ := Unit) ((gu (order'.length ≤ sizeLine) (lt (order'.map (fun (a1 : Nat) => ([] : (List Nat)))) fun rows_2 => ((forO (fun (a3 : (Nat × Nat)) (s4 : (List (List Nat))) =>
 (gu (a3.2 < s4.length ∧ (s4.getD a3.2 []).length + (MP.cutD order' (some (((a3.1 + 1) : Nat) : Int)) (none : Option Int)).length ≤ sizeLine) (.nx (s4.set a3.2 ((s4.getD a3.2 []) ++ (MP.cutD order' (some (((a3.1 + 1) : Nat) : Int)) (none : Option Int))))))) (enT 0 order') rows_2).bind fun s5 =>
 (bo (T__law_shut s5) fun r6 =>
 (.rt r6)))))) (fun _ => none)
def S__law_ranking (cf : CF) : Prop := ∀ (order' : (List Nat)) (r : (List (List Nat))), T__law_ranking order' = some r → cf 22 [iF (tpD nD) order'] = .ok ((fun r : (List (List Nat)) => iF (tpD (tpD nD)) r) r) ((fun r : (List (List Nat)) => []) r)
theorem ev__law_ranking {cf : CF} (S__law_shut : S__law_shut cf) (order' : (List Nat)) (r : (List (List Nat))) (h : T__law_ranking order' = some r) : runB d__law_ranking.np d__law_ranking.ns d__law_ranking.io (b__law_ranking cf) [iF (tpD nD) order'] = .ok ((fun r : (List (List Nat)) => iF (tpD (tpD nD)) r) r) ((fun r : (List (List Nat)) => []) r) := by
  unfold T__law_ranking at h
  refine fn_ok (k := (fun _ => none)) (io := []) (lam := Unit) (Λ := fun _ => []) (R := (fun r : (List (List Nat)) => iF (tpD (tpD nD)) r)) (O := (fun r : (List (List Nat)) => [])) (Φ := (fun _ : Unit => [])) (Γ := [.is (iF (tpD nD) order'), .cl, .cl, .cl]) ?_ rfl rfl (nla_c rfl nla_n) (fun r => rfl) (fun r => go_n) (by intro _ _ z; cases z) h
  unfold b__law_ranking
  exact
   (tb_set (K := lF (lF (iF nD))) (te_lc (K := lF (iF nD)) (ti_T (te_v rfl)) (fun (a1 : Nat) => tg_nm) (fun (a1 : Nat) => (te_ls0 (iF nD))) (fun (a1 : Nat) => (wk_s (wk_s (wk_s (wk_a wk_n))))) (Cn.c rfl Cn.n)) (fun q => ⟨trivial, ⟨q, (fun a1 a1m => trivial)⟩⟩) (fun rows_2 =>
 (tb_seq (S := (fun (s4 : (List (List Nat))) => [.is (iF (tpD nD) order'), .is (lF (lF (iF nD)) s4), .cl, .cl])) (tb_0 (tb_for (S := (fun (s4 : (List (List Nat))) => [.is (iF (tpD nD) order'), .is (lF (lF (iF nD)) s4), .cl, .cl])) (ti_enT (ta_c (te_v rfl) ta_n)) (fun q => ⟨trivial, trivial⟩) (wk_s (wk_s (wk_s (wk_s wk_n)))) (fun a3 s4 => (tg_2 tg_nm tg_nm)) (fun a3 s4 =>
 (tb_one (ts_ex (te_extT1 rfl (tp_c tp_n (te_v rfl)) (ta_c (te_slT (te_v rfl) (to_N (te_addN (te_v rfl) (te_cN 1))) to_n) ta_n) rfl)) (fun q => ⟨⟨trivial, trivial⟩, ⟨⟨trivial, ⟨trivial, trivial⟩, trivial⟩, trivial⟩, q⟩) (wk_s (wk_s (wk_c (wk_c wk_n)))))))) (fun s5 =>
 (tb_bo (fun r6 hr6 => (tb_0 (tb_ret (te_k0 (K := iF (tpD (tpD nD))) (r := r6) (tc_l (te_vl rfl) tc_n) (S__law_shut s5 r6) (.inr (hm_of _))) (fun q => ⟨⟨trivial, trivial⟩, hr6⟩) rfl))))))) rfl)
theorem y__law_ranking (n : Nat) : S__law_ranking (callF P (n + 2)) := by
  intro   order' r h
  exact (callF_at (P := P) (n := n + 1) (fi := 22) (d := d__law_ranking) rfl _).trans (ev__law_ranking (cf := callF P (n + 1)) (y__law_shut (n + 0)) order' r h)

/-! renamed_row -/
noncomputable def T_renamed_row (league' : (List (List Nat))) (order' : (List Nat)) (side' : Nat) : Option (List Nat) := finO (lam := Unit) (σ := Unit) ((gu ((order'.length < 2 ^ 62) ∧ (((List.range order'.length).length ≤ sizeLine) ∧ (∀ a1 ∈ (List.range order'.length), (((side' < order'.length) ∧ (a1 < order'.length)) ∧ ((T_beat league' (order'.getD side' default) (order'.getD a1 default)).isSome = true))))) (.rt (((List.range order'.length).filter fun (a1 : Nat) => (ov (T_beat league' (order'.getD side' default) (order'.getD a1 default)))).map (fun (a1 : Nat) => a1))))) (fun _ => none)
def S_renamed_row (cf : CF) : Prop := ∀ (league' : (List (List Nat))) (order' : (List Nat)) (side' : Nat) (r : (List Nat)), T_renamed_row league' order' side' = some r → cf 25 [iF (tpD (tpD nD)) league', iF (tpD nD) order', iF nD side'] = .ok ((fun r : (List Nat) => iF (tpD nD) r) r) ((fun r : (List Nat) => []) r)
theorem ev_renamed_row {cf : CF} (S_beat : S_beat cf) (league' : (List (List Nat))) (order' : (List Nat)) (side' : Nat) (r : (List Nat)) (h : T_renamed_row league' order' side' = some r) : runB d_renamed_row.np d_renamed_row.ns d_renamed_row.io (b_renamed_row cf) [iF (tpD (tpD nD)) league', iF (tpD nD) order', iF nD side'] = .ok ((fun r : (List Nat) => iF (tpD nD) r) r) ((fun r : (List Nat) => []) r) := by
  unfold T_renamed_row at h
  refine fn_ok (k := (fun _ => none)) (io := []) (lam := Unit) (Λ := fun _ => []) (R := (fun r : (List Nat) => iF (tpD nD) r)) (O := (fun r : (List Nat) => [])) (Φ := (fun _ : Unit => [])) (Γ := [.is (iF (tpD (tpD nD)) league'), .is (iF (tpD nD) order'), .is (iF nD side'), .cl]) ?_ rfl rfl (nla_c rfl (nla_c rfl (nla_c rfl nla_n))) (fun r => rfl) (fun r => go_n) (by intro _ _ z; cases z) h
  unfold b_renamed_row
  exact
   (tb_ret (te_tupL (te_lcp (K := iF nD) (ti_r1 (ta_c (te_lenT (te_v rfl) (vi _)) ta_n)) (fun (a1 : Nat) => tg_nm) (fun (a1 : Nat) => tt (te_o0 (K := iF bD) (tc_i (te_v rfl) (tc_i (te_ixT (te_v rfl) (te_v rfl)) (tc_i (te_ixT (te_v rfl) (te_v rfl)) tc_n))) (fun r => S_beat league' (order'.getD side' default) (order'.getD a1 default) r) (.inl rfl))) (fun (a1 : Nat) => (te_v rfl)) (fun (a1 : Nat) => (wk_s (wk_s (wk_s (wk_a wk_n))))) (Cn.c rfl Cn.n)) (vl _)) (fun q => ⟨⟨⟨trivial, trivial⟩, q.1⟩, ⟨q.2.1, (fun a1 a1m => ⟨⟨⟨trivial, ⟨⟨trivial, trivial, (q.2.2 a1 a1m).1.1⟩, ⟨⟨trivial, trivial, (q.2.2 a1 a1m).1.2⟩, trivial⟩⟩⟩, (q.2.2 a1 a1m).2⟩, (fun q3 => trivial)⟩)⟩⟩) rfl)
theorem y_renamed_row (n : Nat) : S_renamed_row (callF P (n + 2)) := by
  intro   league' order' side' r h
  exact (callF_at (P := P) (n := n + 1) (fi := 25) (d := d_renamed_row) rfl _).trans (ev_renamed_row (cf := callF P (n + 1)) (y_beat (n + 0)) league' order' side' r h)

/-! _law_league -/
noncomputable def T__law_league (jar' : Jar) (n' : Nat) : Option ((List (List Nat)) × Jar) := finO (lam := Unit) (σ := Unit) ((bo (T__law_draw jar' 6) fun r1 =>
 (bo (T__law_mixed nD r1.2 (List.range n')) fun r2 =>
 (gu ((n' ≤ 2 ^ 24) ∧ ((n' < 2 ^ 62) ∧ ((List.range n').length ≤ sizeLine))) (lt r1.1 fun style_4 => (lt r2.1 fun order_5 => (lt ((List.range n').map (fun (a3 : Nat) => ([] : (List Nat)))) fun rows_6 => (bo (T__law_matches n') fun r7 =>
 ((forO (fun (a8 : (Nat × Nat)) (s9 : (Jar × (List (List Nat)))) =>
 (gu ((a8.1 < order_5.length) ∧ (a8.2 < order_5.length)) (lt (order_5.getD a8.1 default) fun high_10 => (lt (order_5.getD a8.2 default) fun low_11 => (bo (T__law_draw s9.1 2) fun r12 =>
 (lt (decide (r12.1 = 0)) fun is_turned_13 => (((if (decide (style_4 < 2)) then (bo (cif (decide (style_4 = 1)) (T__law_draw r12.2 5)) fun r16 =>
 (.nx ((if (decide (style_4 = 1)) then r16.2 else r12.2), ((decide (style_4 = 1)) && (decide (r16.1 = 0)))))) else (if (decide (style_4 = 2)) then (.nx (r12.2, (decide ((((n' / 2) : Nat) : Int) < (((a8.2 : Nat) : Int) - ((a8.1 : Nat) : Int)))))) else (.nx (r12.2, is_turned_13)))) : Out _ _ (Jar × Bool)).bind fun s14 =>
 (gu ((if s14.2 then low_11 else high_10) < s9.2.length ∧ (s9.2.getD (if s14.2 then low_11 else high_10) []).length < sizeLine) (.nx (s14.1, (s9.2.set (if s14.2 then low_11 else high_10) ((s9.2.getD (if s14.2 then low_11 else high_10) []) ++ [(if s14.2 then high_10 else low_11)])))))))))))) r7 (r2.2, rows_6)).bind fun s23 =>
 (bo (T__law_shut s23.2) fun r24 =>
 (.rt (r24, s23.1)))))))))))) (fun _ => none)
def S__law_league (cf : CF) : Prop := ∀ (jar' : Jar) (n' : Nat) (r : ((List (List Nat)) × Jar)), T__law_league jar' n' = some r → cf 5 [Jar.lv jar', iF nD n'] = .ok ((fun r : ((List (List Nat)) × Jar) => iF (tpD (tpD nD)) r.1) r) ((fun r : ((List (List Nat)) × Jar) => [Jar.lv r.2]) r)
theorem ev__law_league {cf : CF} (S__law_draw : S__law_draw cf) (S__law_matches : S__law_matches cf) (S__law_mixed : S__law_mixed cf) (S__law_shut : S__law_shut cf) (jar' : Jar) (n' : Nat) (r : ((List (List Nat)) × Jar)) (h : T__law_league jar' n' = some r) : runB d__law_league.np d__law_league.ns d__law_league.io (b__law_league cf) [Jar.lv jar', iF nD n'] = .ok ((fun r : ((List (List Nat)) × Jar) => iF (tpD (tpD nD)) r.1) r) ((fun r : ((List (List Nat)) × Jar) => [Jar.lv r.2]) r) := by
  unfold T__law_league at h
  refine fn_ok (k := (fun _ => none)) (io := [0]) (lam := Unit) (Λ := fun _ => []) (R := (fun r : ((List (List Nat)) × Jar) => iF (tpD (tpD nD)) r.1)) (O := (fun r : ((List (List Nat)) × Jar) => [Jar.lv r.2])) (Φ := (fun _ : Unit => [])) (Γ := [.is (Jar.lv jar'), .is (iF nD n'), .cl, .cl, .cl, .cl, .cl, .cl, .cl, .cl, .cl]) ?_ rfl rfl (nla_c (jar_nl _) (nla_c rfl nla_n)) (fun r => rfl) (fun r => (go_c (jar_giv1 _) go_n)) (by intro _ _ z; cases z) h
  unfold b__law_league
  exact
   (tb_bo (fun r1 hr1 => (tb_bo (fun r2 hr2 => (tb_par3 (K := iF nD) (K2 := lF (iF nD)) (K3 := lF (lF (iF nD))) (ta_c (te_k1 (K := iF nD) (B := Jar.lv) (r := r1) (tc_s (tc_i (te_cN 6) tc_n) rfl rfl (jar_giv _)) (S__law_draw jar' 6 r1)) (ta_c (te_k1 (K := lF (iF nD)) (B := Jar.lv) (r := r2) (tc_s (tc_f (te_lr (te_v rfl)) tc_n) rfl rfl (jar_giv _)) (S__law_mixed nD (by first | decide | omega) r1.2 (List.range n') r2)) (ta_c (te_lc (K := lF (iF nD)) (ti_r1 (ta_c (te_v rfl) ta_n)) (fun (a3 : Nat) => tg_nm) (fun (a3 : Nat) => (te_ls0 (iF nD))) (fun (a3 : Nat) => (wk_s (wk_s (wk_s (wk_s (wk_s (wk_s (wk_s (wk_s (wk_s (wk_s (wk_a wk_n)))))))))))) (Cn.c rfl Cn.n)) ta_n))) (fun q => ⟨⟨⟨trivial, trivial⟩, hr1⟩, ⟨⟨⟨⟨trivial, q.1⟩, trivial⟩, hr2⟩, ⟨⟨⟨⟨trivial, trivial⟩, q.2.1⟩, ⟨q.2.2, (fun a3 a3m => trivial)⟩⟩, trivial⟩⟩⟩) (fun style_4 order_5 rows_6 =>
 (tb_bo (fun r7 hr7 => (tb_seq (S := (fun (s9 : (Jar × (List (List Nat)))) => [.is (Jar.lv s9.1), .is (iF nD n'), .is (iF nD style_4), .is (lF (iF nD) order_5), .is (lF (lF (iF nD)) s9.2), .cl, .cl, .cl, .cl, .cl, .cl])) (tb_0 (tb_for (S := (fun (s9 : (Jar × (List (List Nat)))) => [.is (Jar.lv s9.1), .is (iF nD n'), .is (iF nD style_4), .is (lF (iF nD) order_5), .is (lF (lF (iF nD)) s9.2), .cl, .cl, .cl, .cl, .cl, .cl])) (ti_F (te_k0 (K := lF (iF (p2D nD nD))) (r := r7) (tc_i (te_v rfl) tc_n) (S__law_matches n' r7) (.inl rfl))) (fun q => ⟨⟨trivial, trivial⟩, hr7⟩) (wk_s (wk_s (wk_s (wk_s (wk_s (wk_s (wk_s (wk_s (wk_s (wk_s (wk_s wk_n))))))))))) (fun a8 s9 => (tg_2 tg_nm tg_nm)) (fun a8 s9 =>
 (tb_par2 (K := iF nD) (K2 := iF nD) (ta_c (te_ixL (te_vl rfl) (te_v rfl)) (ta_c (te_ixL (te_vl rfl) (te_v rfl)) ta_n)) (fun q => ⟨⟨trivial, trivial, q.1⟩, ⟨⟨trivial, trivial, q.2⟩, trivial⟩⟩) (fun high_10 low_11 =>
 (tb_bo (fun r12 hr12 => (tb_0 (tb_set (K := iF bD) (te_eq (D := nD) (te_k1 (K := iF nD) (B := Jar.lv) (r := r12) (tc_s (tc_i (te_cN 2) tc_n) rfl rfl (jar_giv _)) (S__law_draw s9.1 2 r12)) (te_cN 0) (vi _) (vi _) (by first | decide | omega)) (fun q => ⟨⟨⟨trivial, trivial⟩, hr12⟩, trivial⟩) (fun is_turned_13 =>
 (tb_seq (S := (fun (s14 : (Jar × Bool)) => [.is (Jar.lv s14.1), .is (iF nD n'), .is (iF nD style_4), .is (lF (iF nD) order_5), .is (lF (lF (iF nD)) s9.2), .is (iF nD a8.1), .is (iF nD a8.2), .is (iF bD s14.2), .is (iF nD high_10), .is (iF nD low_11), .cl])) (tb_0 (tb_if (tt (te_ltN (te_v rfl) (te_cN 2))) (fun q => ⟨trivial, trivial⟩)
 (tb_bo (fun r16 hr16 => (tb_0 (tb_one (ts_set (te_andE (fun s => [.is (Jar.lv s), .is (iF nD n'), .is (iF nD style_4), .is (lF (iF nD) order_5), .is (lF (lF (iF nD)) s9.2), .is (iF nD a8.1), .is (iF nD a8.2), .is (iF bD is_turned_13), .is (iF nD high_10), .is (iF nD low_11), .cl]) (te_eq (D := nD) (te_v rfl) (te_cN 1) (vi _) (vi _) (by first | decide | omega)) (te_eq (D := nD) (te_k1 (K := iF nD) (B := Jar.lv) (r := r16) (tc_s (tc_i (te_cN 5) tc_n) rfl rfl (jar_giv _)) (S__law_draw r12.2 5 r16)) (te_cN 0) (vi _) (vi _) (by first | decide | omega))) NlV.nl rfl) (fun q => ⟨⟨trivial, trivial⟩, (fun q15 => ⟨⟨⟨trivial, trivial⟩, (cif_h hr16 q15)⟩, trivial⟩)⟩) (wk_s (wk_s (wk_s (wk_s (wk_s (wk_s (wk_s (wk_s (wk_s (wk_s (wk_s wk_n)))))))))))))))
 (tb_0 (tb_if (tt (te_eq (D := nD) (te_v rfl) (te_cN 2) (vi _) (vi _) (by first | decide | omega))) (fun q => ⟨trivial, trivial⟩)
 (tb_0 (tb_one (ts_set (te_gtZ (te_subZ (te_nz (te_v rfl)) (te_nz (te_v rfl))) (te_nz (te_divNc (te_v rfl) (te_cN 2) (by decide) (by decide)))) NlV.nl rfl) (fun q => ⟨⟨trivial, trivial⟩, ⟨trivial, trivial⟩⟩) (wk_s (wk_s (wk_s (wk_s (wk_s (wk_s (wk_s (wk_s (wk_s (wk_s (wk_s wk_n)))))))))))))
 (tb_nil (wk_s (wk_s (wk_s (wk_s (wk_s (wk_s (wk_s (wk_s (wk_s (wk_s (wk_s wk_n)))))))))))))))) (fun s14 =>
 (tb_one (ts_ex (te_app1 rfl (tp_c tp_n (te_ite (K := iF nD) (te_v rfl) (te_v rfl) (te_v rfl))) (ta_c (te_ite (K := iF nD) (te_v rfl) (te_v rfl) (te_v rfl)) ta_n) rfl)) (fun q => ⟨⟨trivial, ⟨trivial, (fun q19 => trivial), (fun q20 => trivial)⟩⟩, ⟨⟨trivial, (fun q21 => trivial), (fun q22 => trivial)⟩, trivial⟩, q⟩) (wk_s (wk_s (wk_s (wk_s (wk_s (wk_c (wk_c (wk_c (wk_c (wk_c (wk_s wk_n))))))))))))))) rfl))))) rfl rfl)))) (fun s23 =>
 (tb_bo (fun r24 hr24 => (tb_0 (tb_ret (te_k0 (K := iF (tpD (tpD nD))) (r := r24) (tc_l (te_vl rfl) tc_n) (S__law_shut s23.2 r24) (.inr (hm_of _))) (fun q => ⟨⟨trivial, trivial⟩, hr24⟩) rfl))))))))) rfl rfl rfl)))))
theorem y__law_league (n : Nat) : S__law_league (callF P (n + 3)) := by
  intro   jar' n' r h
  exact (callF_at (P := P) (n := n + 2) (fi := 5) (d := d__law_league) rfl _).trans (ev__law_league (cf := callF P (n + 2)) (y__law_draw (n + 1)) (y__law_matches (n + 1)) (y__law_mixed (n + 0)) (y__law_shut (n + 1)) jar' n' r h)

/-! sign -/
noncomputable def T_sign (league' : (List (List Nat))) : Option Nat := finO (lam := Unit) (σ := Unit) ((bo (T_ring_count league') fun r1 =>
 (lt r1 fun found_2 => ((forO (fun (a3 : (Nat × (List Nat))) (s4 : Int) =>
 (gu (a3.2.length ≤ sizeLine) (.nx (s4 + ((((a3.2.filter fun (a5 : Nat) => (decide (a5 < a3.1))).map (fun (a5 : Nat) => a5)).length : Nat) : Int))))) (enT 0 league') found_2).bind fun s8 =>
 (.rt (s8 % 2).toNat))))) (fun _ => none)
def S_sign (cf : CF) : Prop := ∀ (league' : (List (List Nat))) (r : Nat), T_sign league' = some r → cf 16 [iF (tpD (tpD nD)) league'] = .ok ((fun r : Nat => iF nD r) r) ((fun r : Nat => []) r)
theorem ev_sign {cf : CF} (S_ring_count : S_ring_count cf) (league' : (List (List Nat))) (r : Nat) (h : T_sign league' = some r) : runB d_sign.np d_sign.ns d_sign.io (b_sign cf) [iF (tpD (tpD nD)) league'] = .ok ((fun r : Nat => iF nD r) r) ((fun r : Nat => []) r) := by
  unfold T_sign at h
  refine fn_ok (k := (fun _ => none)) (io := []) (lam := Unit) (Λ := fun _ => []) (R := (fun r : Nat => iF nD r)) (O := (fun r : Nat => [])) (Φ := (fun _ : Unit => [])) (Γ := [.is (iF (tpD (tpD nD)) league'), .cl, .cl, .cl, .cl]) ?_ rfl rfl (nla_c rfl nla_n) (fun r => rfl) (fun r => go_n) (by intro _ _ z; cases z) h
  unfold b_sign
  exact
   (tb_bo (fun r1 hr1 => (tb_0 (tb_set (K := iF zD) (te_k0 (K := iF zD) (r := r1) (tc_i (te_v rfl) tc_n) (S_ring_count league' r1) (.inl rfl)) (fun q => ⟨⟨trivial, trivial⟩, hr1⟩) (fun found_2 =>
 (tb_seq (S := (fun (s4 : Int) => [.is (iF (tpD (tpD nD)) league'), .is (iF zD s4), .cl, .cl, .cl])) (tb_0 (tb_for (S := (fun (s4 : Int) => [.is (iF (tpD (tpD nD)) league'), .is (iF zD s4), .cl, .cl, .cl])) (ti_enT (ta_c (te_v rfl) ta_n)) (fun q => ⟨trivial, trivial⟩) (wk_s (wk_s (wk_s (wk_s (wk_s wk_n))))) (fun a3 s4 => (tg_2 tg_nm tg_nm)) (fun a3 s4 =>
 (tb_one (ts_set (te_addZ (te_v rfl) (te_nz (te_lenL (te_lcp (K := iF nD) (ti_T (te_v rfl)) (fun (a5 : Nat) => tg_nm) (fun (a5 : Nat) => tt (te_ltN (te_v rfl) (te_v rfl))) (fun (a5 : Nat) => (te_v rfl)) (fun (a5 : Nat) => (wk_s (wk_s (wk_s (wk_s (wk_a wk_n)))))) (Cn.c rfl Cn.n)) (vl _)))) NlV.nl rfl) (fun q => ⟨trivial, ⟨trivial, ⟨q, (fun a5 a5m => ⟨⟨trivial, trivial⟩, (fun q6 => trivial)⟩)⟩⟩⟩) (wk_s (wk_s (wk_c (wk_c (wk_s wk_n))))))))) (fun s8 =>
 (tb_0 (tb_ret (te_modZcN (te_v rfl) (te_cN 2) (by decide)) (fun q => ⟨trivial, trivial⟩) rfl))))) rfl))))
theorem y_sign (n : Nat) : S_sign (callF P (n + 3)) := by
  intro   league' r h
  exact (callF_at (P := P) (n := n + 2) (fi := 16) (d := d_sign) rfl _).trans (ev_sign (cf := callF P (n + 2)) (y_ring_count (n + 0)) league' r h)

/-! _law_walk -/
noncomputable def T__law_walk (jar' : Jar) (league' : (List (List Nat))) (most' : Nat) : Option (((List (Nat × Nat)) × (List (List Nat))) × Jar) := finO (lam := Unit) (σ := Unit) ((bo (T__law_rows league') fun r1 =>
 (bo (T__law_matches league'.length) fun r2 =>
 (lt r1 fun rows_3 => (lt ([] : (List (Nat × Nat))) fun found_4 => (lt r2 fun matches_5 => (bo (T__law_draw jar' (most' + 1)) fun r6 =>
 ((gu (r6.1 < 2 ^ 62) (forO (fun (a7 : Nat) (s8 : (Jar × (List (List Nat)) × (List (Nat × Nat)))) =>
 (gu ((matches_5.length ≤ sizeLine) ∧ (∀ a9 ∈ matches_5, ((T__law_kind s8.2.1 a9.1 a9.2).isSome = true))) (lt ((matches_5.filter fun (a9 : (Nat × Nat)) => (decide ((ov (T__law_kind s8.2.1 a9.1 a9.2)) ≠ ("none" : Str)))).map (fun (a9 : (Nat × Nat)) => a9)) fun open_ones_12 => (if (decide (open_ones_12 ≠ ([] : (List (Nat × Nat))))) then (bo (T__law_pick (p2D nD nD) s8.1 open_ones_12) fun r13 =>
 (gu (s8.2.2.length < sizeLine) (bo (T__law_turn s8.2.1 ((s8.2.2 ++ [r13.1]).getLastD default).1 ((s8.2.2 ++ [r13.1]).getLastD default).2) fun r14 =>
 (gu (((s8.2.2 ++ [r13.1]) ≠ []) ∧ ((s8.2.2 ++ [r13.1]) ≠ [])) (.nx (r13.2, r14.2, (s8.2.2 ++ [r13.1]))))))) else (.nx (s8.1, s8.2.1, s8.2.2)))))) (List.range r6.1) (r6.2, rows_3, found_4))).bind fun s15 =>
 (bo (T__law_shut s15.2.1) fun r16 =>
 (.rt ((s15.2.2, r16), s15.1))))))))))) (fun _ => none)
def S__law_walk (cf : CF) : Prop := ∀ (jar' : Jar) (league' : (List (List Nat))) (most' : Nat) (r : (((List (Nat × Nat)) × (List (List Nat))) × Jar)), T__law_walk jar' league' most' = some r → cf 23 [Jar.lv jar', iF (tpD (tpD nD)) league', iF nD most'] = .ok ((fun r : (((List (Nat × Nat)) × (List (List Nat))) × Jar) => iF (p2D (tpD (p2D nD nD)) (tpD (tpD nD))) r.1) r) ((fun r : (((List (Nat × Nat)) × (List (List Nat))) × Jar) => [Jar.lv r.2]) r)
theorem ev__law_walk {cf : CF} (S__law_draw : S__law_draw cf) (S__law_kind : S__law_kind cf) (S__law_matches : S__law_matches cf) (S__law_pick : S__law_pick cf) (S__law_rows : S__law_rows cf) (S__law_shut : S__law_shut cf) (S__law_turn : S__law_turn cf) (jar' : Jar) (league' : (List (List Nat))) (most' : Nat) (r : (((List (Nat × Nat)) × (List (List Nat))) × Jar)) (h : T__law_walk jar' league' most' = some r) : runB d__law_walk.np d__law_walk.ns d__law_walk.io (b__law_walk cf) [Jar.lv jar', iF (tpD (tpD nD)) league', iF nD most'] = .ok ((fun r : (((List (Nat × Nat)) × (List (List Nat))) × Jar) => iF (p2D (tpD (p2D nD nD)) (tpD (tpD nD))) r.1) r) ((fun r : (((List (Nat × Nat)) × (List (List Nat))) × Jar) => [Jar.lv r.2]) r) := by
  unfold T__law_walk at h
  refine fn_ok (k := (fun _ => none)) (io := [0]) (lam := Unit) (Λ := fun _ => []) (R := (fun r : (((List (Nat × Nat)) × (List (List Nat))) × Jar) => iF (p2D (tpD (p2D nD nD)) (tpD (tpD nD))) r.1)) (O := (fun r : (((List (Nat × Nat)) × (List (List Nat))) × Jar) => [Jar.lv r.2])) (Φ := (fun _ : Unit => [])) (Γ := [.is (Jar.lv jar'), .is (iF (tpD (tpD nD)) league'), .is (iF nD most'), .cl, .cl, .cl, .cl, .cl, .cl]) ?_ rfl rfl (nla_c (jar_nl _) (nla_c rfl (nla_c rfl nla_n))) (fun r => rfl) (fun r => (go_c (jar_giv1 _) go_n)) (by intro _ _ z; cases z) h
  unfold b__law_walk
  exact
   (tb_bo (fun r1 hr1 => (tb_bo (fun r2 hr2 => (tb_0 (tb_asp3 (K := lF (lF (iF nD))) (K2 := lF (iF (p2D nD nD))) (K3 := lF (iF (p2D nD nD))) (ta_c (te_k0 (K := lF (lF (iF nD))) (r := r1) (tc_i (te_v rfl) tc_n) (S__law_rows league' r1) (.inl rfl)) (ta_c (te_ls0 (iF (p2D nD nD))) (ta_c (te_k0 (K := lF (iF (p2D nD nD))) (r := r2) (tc_i (te_lenT (te_v rfl) (vi _)) tc_n) (S__law_matches league'.length r2) (.inl rfl)) ta_n))) (fun q => ⟨⟨⟨trivial, trivial⟩, hr1⟩, ⟨trivial, ⟨⟨⟨trivial, trivial⟩, hr2⟩, trivial⟩⟩⟩) (fun rows_3 found_4 matches_5 =>
 (tb_bo (fun r6 hr6 => (tb_seq (S := (fun (s8 : (Jar × (List (List Nat)) × (List (Nat × Nat)))) => [.is (Jar.lv s8.1), .is (iF (tpD (tpD nD)) league'), .is (iF nD most'), .cl, .is (lF (lF (iF nD)) s8.2.1), .is (lF (iF (p2D nD nD)) s8.2.2), .is (lF (iF (p2D nD nD)) matches_5), .cl, .cl])) (tb_for (S := (fun (s8 : (Jar × (List (List Nat)) × (List (Nat × Nat)))) => [.is (Jar.lv s8.1), .is (iF (tpD (tpD nD)) league'), .is (iF nD most'), .cl, .is (lF (lF (iF nD)) s8.2.1), .is (lF (iF (p2D nD nD)) s8.2.2), .is (lF (iF (p2D nD nD)) matches_5), .cl, .cl])) (ti_r1 (ta_c (te_k1 (K := iF nD) (B := Jar.lv) (r := r6) (tc_s (tc_i (te_addN (te_v rfl) (te_cN 1)) tc_n) rfl rfl (jar_giv _)) (S__law_draw jar' (most' + 1) r6)) ta_n)) (fun q => ⟨⟨⟨⟨⟨trivial, trivial⟩, trivial⟩, hr6⟩, trivial⟩, q⟩) (wk_s (wk_s (wk_s (wk_s (wk_s (wk_s (wk_s (wk_s (wk_s wk_n))))))))) (fun a7 s8 => tg_nm) (fun a7 s8 =>
 (tb_set (K := iF (lsD (p2D nD nD))) (te_frz (te_lcp (K := iF (p2D nD nD)) (ti_L (te_vl rfl)) (fun (a9 : (Nat × Nat)) => tg_nm) (fun (a9 : (Nat × Nat)) => tt (te_ne (D := sD) (te_o0 (K := iF sD) (tc_l (te_vl rfl) (tc_i (te_p0 (te_v rfl) (te_cN 0)) (tc_i (te_p1 (te_v rfl) (te_cN 1)) tc_n))) (fun r => S__law_kind s8.2.1 a9.1 a9.2 r) (.inr rfl)) (te_cS "none") (vi _) (vi _) (by first | decide | omega))) (fun (a9 : (Nat × Nat)) => (te_v rfl)) (fun (a9 : (Nat × Nat)) => (wk_s (wk_s (wk_s (wk_s (wk_s (wk_s (wk_s (wk_s (wk_a wk_n)))))))))) (Cn.c rfl Cn.n))) (fun q => ⟨trivial, ⟨q.1, (fun a9 a9m => ⟨⟨⟨⟨trivial, ⟨⟨trivial, trivial⟩, ⟨⟨trivial, trivial⟩, trivial⟩⟩⟩, (q.2 a9 a9m)⟩, trivial⟩, (fun q11 => trivial)⟩)⟩⟩) (fun open_ones_12 =>
 (tb_0 (tb_if (tt (te_ne (D := (lsD (p2D nD nD))) (te_v rfl) (te_ls0 (iF (p2D nD nD))) (vi _) (vl _) (by first | decide | omega))) (fun q => ⟨trivial, trivial⟩)
 (tb_bo (fun r13 hr13 => (tb_s (ts_ex (te_app rfl (ta_c (te_k1 (K := iF (p2D nD nD)) (B := Jar.lv) (r := r13) (tc_s (tc_i (te_v rfl) tc_n) rfl rfl (jar_giv _)) (S__law_pick (p2D nD nD) (by first | decide | omega) s8.1 open_ones_12 r13)) ta_n) rfl)) (fun q => ⟨⟨⟨⟨trivial, trivial⟩, hr13⟩, trivial⟩, q⟩) (tb_bo (fun r14 hr14 => (tb_one (ts_ex (te_k1 (K := iF uD) (B := lF (lF (iF nD))) (r := r14) (tc_s (tc_i (te_p0 (te_ixLl (te_vl rfl) (te_neg (te_nz (te_cN 1))) rfl) (te_cN 0)) (tc_i (te_p1 (te_ixLl (te_vl rfl) (te_neg (te_nz (te_cN 1))) rfl) (te_cN 1)) tc_n)) rfl rfl (giv_l _)) (S__law_turn s8.2.1 ((s8.2.2 ++ [r13.1]).getLastD default).1 ((s8.2.2 ++ [r13.1]).getLastD default).2 r14))) (fun q => ⟨⟨⟨⟨trivial, trivial, q.1⟩, trivial⟩, ⟨⟨⟨trivial, trivial, q.2⟩, trivial⟩, trivial⟩⟩, hr14⟩) (wk_s (wk_s (wk_s (wk_c (wk_s (wk_s (wk_s (wk_c (wk_s wk_n)))))))))))))))
 (tb_nil (wk_s (wk_s (wk_s (wk_c (wk_s (wk_s (wk_s (wk_c (wk_s wk_n))))))))))))) rfl))) (fun s15 =>
 (tb_bo (fun r16 hr16 => (tb_0 (tb_ret (te_tp2 (ta_c (te_tupL (te_vl rfl) (vn _)) (ta_c (te_k0 (K := iF (tpD (tpD nD))) (r := r16) (tc_l (te_vl rfl) tc_n) (S__law_shut s15.2.1 r16) (.inr (hm_of _))) ta_n))) (fun q => ⟨trivial, ⟨⟨⟨trivial, trivial⟩, hr16⟩, trivial⟩⟩) rfl))))))))) rfl rfl rfl))))))
theorem y__law_walk (n : Nat) : S__law_walk (callF P (n + 3)) := by
  intro   jar' league' most' r h
  exact (callF_at (P := P) (n := n + 2) (fi := 23) (d := d__law_walk) rfl _).trans (ev__law_walk (cf := callF P (n + 2)) (y__law_draw (n + 1)) (y__law_kind (n + 1)) (y__law_matches (n + 1)) (y__law_pick (n + 0)) (y__law_rows (n + 1)) (y__law_shut (n + 1)) (y__law_turn (n + 1)) jar' league' most' r h)

/-! renamed -/
noncomputable def T_renamed (league' : (List (List Nat))) (order' : (List Nat)) : Option (List (List Nat)) := finO (lam := Unit) (σ := Unit) ((gu ((order'.length < 2 ^ 62) ∧ (((List.range order'.length).length ≤ sizeLine) ∧ (∀ a1 ∈ (List.range order'.length), ((T_renamed_row league' order' a1).isSome = true)))) (.rt ((List.range order'.length).map (fun (a1 : Nat) => (ov (T_renamed_row league' order' a1))))))) (fun _ => none)
def S_renamed (cf : CF) : Prop := ∀ (league' : (List (List Nat))) (order' : (List Nat)) (r : (List (List Nat))), T_renamed league' order' = some r → cf 26 [iF (tpD (tpD nD)) league', iF (tpD nD) order'] = .ok ((fun r : (List (List Nat)) => iF (tpD (tpD nD)) r) r) ((fun r : (List (List Nat)) => []) r)
theorem ev_renamed {cf : CF} (S_renamed_row : S_renamed_row cf) (league' : (List (List Nat))) (order' : (List Nat)) (r : (List (List Nat))) (h : T_renamed league' order' = some r) : runB d_renamed.np d_renamed.ns d_renamed.io (b_renamed cf) [iF (tpD (tpD nD)) league', iF (tpD nD) order'] = .ok ((fun r : (List (List Nat)) => iF (tpD (tpD nD)) r) r) ((fun r : (List (List Nat)) => []) r) := by
  unfold T_renamed at h
  refine fn_ok (k := (fun _ => none)) (io := []) (lam := Unit) (Λ := fun _ => []) (R := (fun r : (List (List Nat)) => iF (tpD (tpD nD)) r)) (O := (fun r : (List (List Nat)) => [])) (Φ := (fun _ : Unit => [])) (Γ := [.is (iF (tpD (tpD nD)) league'), .is (iF (tpD nD) order'), .cl]) ?_ rfl rfl (nla_c rfl (nla_c rfl nla_n)) (fun r => rfl) (fun r => go_n) (by intro _ _ z; cases z) h
  unfold b_renamed
  exact
   (tb_ret (te_tupL (te_lc (K := iF (tpD nD)) (ti_r1 (ta_c (te_lenT (te_v rfl) (vi _)) ta_n)) (fun (a1 : Nat) => tg_nm) (fun (a1 : Nat) => (te_o0 (K := iF (tpD nD)) (tc_i (te_v rfl) (tc_i (te_v rfl) (tc_i (te_v rfl) tc_n))) (fun r => S_renamed_row league' order' a1 r) (.inl rfl))) (fun (a1 : Nat) => (wk_s (wk_s (wk_a wk_n)))) (Cn.c rfl Cn.n)) (vl _)) (fun q => ⟨⟨⟨trivial, trivial⟩, q.1⟩, ⟨q.2.1, (fun a1 a1m => ⟨⟨trivial, ⟨trivial, ⟨trivial, trivial⟩⟩⟩, (q.2.2 a1 a1m)⟩)⟩⟩) rfl)
theorem y_renamed (n : Nat) : S_renamed (callF P (n + 3)) := by
  intro   league' order' r h
  exact (callF_at (P := P) (n := n + 2) (fi := 26) (d := d_renamed) rfl _).trans (ev_renamed (cf := callF P (n + 2)) (y_renamed_row (n + 0)) league' order' r h)

/-! law -/
noncomputable def T_law (script' : (List Int)) : Option Bool := finO (lam := Unit) (σ := Unit) ((bo (T__law_jar script') fun r1 =>
 (lt r1 fun jar_2 => ((gu (7 < 2 ^ 62) (forO (fun (a3 : Nat) (s4 : Jar) =>
 (bo (T__law_draw s4 8) fun r5 =>
 (lt (1 + r5.1) fun n_6 => (bo (T__law_league r5.2 n_6) fun r7 =>
 (bo (T__law_mixed nD r7.2 (List.range n_6)) fun r8 =>
 (gu (n_6 ≤ 2 ^ 24) (lt r7.1 fun league_9 => (lt r8.1 fun order_10 => (bo (T__law_sign league_9) fun r11 =>
 (bo (T__law_odd_pairs order_10) fun r12 =>
 (gu (RO ((lsD xD) (((tpD (tpD nD)) league_9) :: (((tpD nD) order_10) :: ([] : List PyData))))) (lt ((lsD xD) (((tpD (tpD nD)) league_9) :: (((tpD nD) order_10) :: ([] : List PyData)))).shown fun kept_13 => (lt r11 fun due_14 => (lt r12 fun odd_15 => (bo (cif (decide (a3 = 1)) (T_sign league_9)) fun r18 =>
 (bo (cif (!(decide (a3 = 1))) (T_sign league_9)) fun r19 =>
 (bo (T_sign league_9) fun r20 =>
 (lt ((if (decide (a3 = 1)) then r18 else r19) :: (r20 :: ([] : List Nat))) fun found_21 => (bo (cif (decide (a3 = 2)) (T_order_sign order_10)) fun r24 =>
 (bo (cif (!(decide (a3 = 2))) (T_order_sign order_10)) fun r25 =>
 (bo (T_ranking order_10) fun r26 =>
 (bo (T_sign r26) fun r27 =>
 (gu (found_21.length + ((if (decide (a3 = 2)) then r24 else r25) :: (r27 :: ([] : List Nat))).length ≤ sizeLine) (lt (found_21 ++ ((if (decide (a3 = 2)) then r24 else r25) :: (r27 :: ([] : List Nat)))) fun found_28 => (bo (cif (!(decide (((lsD nD) found_28).shown ≠ ((lsD nD) (due_14 :: (due_14 :: (odd_15 :: (odd_15 :: ([] : List Nat)))))).shown))) (T__law_ranking order_10)) fun r30 =>
 (bo (cif (!(decide (((lsD nD) found_28).shown ≠ ((lsD nD) (due_14 :: (due_14 :: (odd_15 :: (odd_15 :: ([] : List Nat)))))).shown))) (T_sign r30)) fun r31 =>
 (((gu (((RO ((lsD nD) found_28)) ∧ (RO ((lsD nD) (due_14 :: (due_14 :: (odd_15 :: (odd_15 :: ([] : List Nat)))))))) ∧ ((decide (((lsD nD) found_28).shown ≠ ((lsD nD) (due_14 :: (due_14 :: (odd_15 :: (odd_15 :: ([] : List Nat)))))).shown)) = false → ((RO (nD r31)) ∧ (RO (nD odd_15))))) (if ((decide (((lsD nD) found_28).shown ≠ ((lsD nD) (due_14 :: (due_14 :: (odd_15 :: (odd_15 :: ([] : List Nat)))))).shown)) || (decide ((nD r31).shown ≠ (nD odd_15).shown))) then (.rt false) else (.nx ()))) : Out _ _ Unit).bind fun _ =>
 (bo (T_renamed league_9 order_10) fun r33 =>
 (bo (T_sign r33) fun r34 =>
 (((gu ((RO (nD r34)) ∧ (RO (nD ((due_14 + odd_15) % 2)))) (if (decide ((nD r34).shown ≠ (nD ((due_14 + odd_15) % 2)).shown)) then (.rt false) else (.nx ()))) : Out _ _ Unit).bind fun _ =>
 (bo (T__law_walk r8.2 league_9 6) fun r36 =>
 (lt r36.1.2 fun other_37 => (bo (T_sign other_37) fun r38 =>
 (bo (cif (!(decide ((nD r38).shown ≠ (nD due_14).shown))) (T__law_sign other_37)) fun r40 =>
 (gu (((RO (nD r38)) ∧ (RO (nD due_14))) ∧ ((decide ((nD r38).shown ≠ (nD due_14).shown)) = false → ((decide (r40 ≠ due_14)) = false → (RO ((lsD xD) (((tpD (tpD nD)) league_9) :: (((tpD nD) order_10) :: ([] : List PyData)))))))) (if ((decide ((nD r38).shown ≠ (nD due_14).shown)) || ((decide (r40 ≠ due_14)) || (decide (((lsD xD) (((tpD (tpD nD)) league_9) :: (((tpD nD) order_10) :: ([] : List PyData)))).shown ≠ kept_13)))) then (.rt false) else (.nx r36.2))))))))))))))))))))))))))))))))))))) (List.range 7) jar_2)).bind fun s42 =>
 (.rt true))))) (fun _ => none)
def S_law (cf : CF) : Prop := ∀ (script' : (List Int)) (r : Bool), T_law script' = some r → cf 29 [iF scrD script'] = .ok ((fun r : Bool => iF bD r) r) ((fun r : Bool => []) r)
theorem ev_law {cf : CF} (S__law_draw : S__law_draw cf) (S__law_jar : S__law_jar cf) (S__law_league : S__law_league cf) (S__law_mixed : S__law_mixed cf) (S__law_odd_pairs : S__law_odd_pairs cf) (S__law_ranking : S__law_ranking cf) (S__law_sign : S__law_sign cf) (S__law_walk : S__law_walk cf) (S_order_sign : S_order_sign cf) (S_ranking : S_ranking cf) (S_renamed : S_renamed cf) (S_sign : S_sign cf) (script' : (List Int)) (r : Bool) (h : T_law script' = some r) : runB d_law.np d_law.ns d_law.io (b_law cf) [iF scrD script'] = .ok ((fun r : Bool => iF bD r) r) ((fun r : Bool => []) r) := by
  unfold T_law at h
  refine fn_ok (k := (fun _ => none)) (io := []) (lam := Unit) (Λ := fun _ => []) (R := (fun r : Bool => iF bD r)) (O := (fun r : Bool => [])) (Φ := (fun _ : Unit => [])) (Γ := [.is (iF scrD script'), .cl, .cl, .cl, .cl, .cl, .cl, .cl, .cl, .cl, .cl]) ?_ rfl rfl (nla_c rfl nla_n) (fun r => rfl) (fun r => go_n) (by intro _ _ z; cases z) h
  unfold b_law
  exact
   (tb_bo (fun r1 hr1 => (tb_0 (tb_set (K := Jar.lv) (te_k0 (K := Jar.lv) (r := r1) (tc_i (te_v rfl) tc_n) (S__law_jar script' r1) (.inl rfl)) (fun q => ⟨⟨trivial, trivial⟩, hr1⟩) (fun jar_2 =>
 (tb_seq (S := (fun (s4 : Jar) => [.is (iF scrD script'), .is (Jar.lv s4), .cl, .cl, .jk, .cl, .cl, .cl, .cl, .cl, .cl])) (tb_for (S := (fun (s4 : Jar) => [.is (iF scrD script'), .is (Jar.lv s4), .cl, .cl, .jk, .cl, .cl, .cl, .cl, .cl, .cl])) (ti_r1 (ta_c (te_cN 7) ta_n)) (fun q => ⟨⟨trivial, trivial⟩, q⟩) (wk_s (wk_s (wk_s (wk_s (wk_j (wk_s (wk_s (wk_s (wk_s (wk_s (wk_s wk_n))))))))))) (fun a3 s4 => tg_nm) (fun a3 s4 =>
 (tb_bo (fun r5 hr5 => (tb_0 (tb_set (K := iF nD) (te_addN (te_cN 1) (te_k1 (K := iF nD) (B := Jar.lv) (r := r5) (tc_s (tc_i (te_cN 8) tc_n) rfl rfl (jar_giv _)) (S__law_draw s4 8 r5))) (fun q => ⟨trivial, ⟨⟨trivial, trivial⟩, hr5⟩⟩) (fun n_6 =>
 (tb_bo (fun r7 hr7 => (tb_bo (fun r8 hr8 => (tb_par2 (K := iF (tpD (tpD nD))) (K2 := iF (tpD nD)) (ta_c (te_k1 (K := iF (tpD (tpD nD))) (B := Jar.lv) (r := r7) (tc_s (tc_i (te_v rfl) tc_n) rfl rfl (jar_giv _)) (S__law_league r5.2 n_6 r7)) (ta_c (te_tupL (te_k1 (K := lF (iF nD)) (B := Jar.lv) (r := r8) (tc_s (tc_f (te_lr (te_v rfl)) tc_n) rfl rfl (jar_giv _)) (S__law_mixed nD (by first | decide | omega) r7.2 (List.range n_6) r8)) (vl _)) ta_n)) (fun q => ⟨⟨⟨trivial, trivial⟩, hr7⟩, ⟨⟨⟨⟨trivial, q⟩, trivial⟩, hr8⟩, trivial⟩⟩) (fun league_9 order_10 =>
 (tb_bo (fun r11 hr11 => (tb_bo (fun r12 hr12 => (tb_par3 (K := iF sD) (K2 := iF nD) (K3 := iF nD) (ta_c (te_repr (D := (lsD xD)) (te_ls (ta_cH (F := iF xD) (te_x (te_v rfl)) (ta_cH (F := iF xD) (te_x (te_v rfl)) (ta_nH (iF xD)))) (Nat.le_of_ble_eq_true rfl)) (vl _)) (ta_c (te_k0 (K := iF nD) (r := r11) (tc_i (te_v rfl) tc_n) (S__law_sign league_9 r11) (.inl rfl)) (ta_c (te_k0 (K := iF nD) (r := r12) (tc_i (te_v rfl) tc_n) (S__law_odd_pairs order_10 r12) (.inl rfl)) ta_n))) (fun q => ⟨⟨⟨trivial, ⟨trivial, trivial⟩⟩, q⟩, ⟨⟨⟨trivial, trivial⟩, hr11⟩, ⟨⟨⟨trivial, trivial⟩, hr12⟩, trivial⟩⟩⟩) (fun kept_13 due_14 odd_15 =>
 (tb_bo (fun r18 hr18 => (tb_bo (fun r19 hr19 => (tb_bo (fun r20 hr20 => (tb_0 (tb_set (K := lF (iF nD)) (te_ls (ta_cH (F := iF nD) (te_ite (K := iF nD) (te_eq (D := nD) (te_v rfl) (te_cN 1) (vi _) (vi _) (by first | decide | omega)) (te_k0 (K := iF nD) (r := r18) (tc_i (te_v rfl) tc_n) (S_sign league_9 r18) (.inl rfl)) (te_k0 (K := iF nD) (r := r19) (tc_i (te_v rfl) tc_n) (S_sign league_9 r19) (.inl rfl))) (ta_cH (F := iF nD) (te_k0 (K := iF nD) (r := r20) (tc_i (te_v rfl) tc_n) (S_sign league_9 r20) (.inl rfl)) (ta_nH (iF nD)))) (Nat.le_of_ble_eq_true rfl)) (fun q => ⟨⟨⟨trivial, trivial⟩, (fun q16 => ⟨⟨trivial, trivial⟩, (cif_h hr18 q16)⟩), (fun q17 => ⟨⟨trivial, trivial⟩, (cif_h hr19 (nt q17))⟩)⟩, ⟨⟨⟨trivial, trivial⟩, hr20⟩, trivial⟩⟩) (fun found_21 =>
 (tb_bo (fun r24 hr24 => (tb_bo (fun r25 hr25 => (tb_bo (fun r26 hr26 => (tb_bo (fun r27 hr27 => (tb_set (K := lF (iF nD)) (te_catL (te_vl rfl) (te_ls (ta_cH (F := iF nD) (te_ite (K := iF nD) (te_eq (D := nD) (te_v rfl) (te_cN 2) (vi _) (vi _) (by first | decide | omega)) (te_k0 (K := iF nD) (r := r24) (tc_i (te_v rfl) tc_n) (S_order_sign order_10 r24) (.inl rfl)) (te_k0 (K := iF nD) (r := r25) (tc_i (te_v rfl) tc_n) (S_order_sign order_10 r25) (.inl rfl))) (ta_cH (F := iF nD) (te_k0 (K := iF nD) (r := r27) (tc_i (te_k0 (K := iF (tpD (tpD nD))) (r := r26) (tc_i (te_v rfl) tc_n) (S_ranking order_10 r26) (.inl rfl)) tc_n) (S_sign r26 r27) (.inl rfl)) (ta_nH (iF nD)))) (Nat.le_of_ble_eq_true rfl)) (vn _) (vl _)) (fun q => ⟨trivial, ⟨⟨⟨trivial, trivial⟩, (fun q22 => ⟨⟨trivial, trivial⟩, (cif_h hr24 q22)⟩), (fun q23 => ⟨⟨trivial, trivial⟩, (cif_h hr25 (nt q23))⟩)⟩, ⟨⟨⟨⟨⟨trivial, trivial⟩, hr26⟩, trivial⟩, hr27⟩, trivial⟩⟩, q⟩) (fun found_28 =>
 (tb_bo (fun r30 hr30 => (tb_bo (fun r31 hr31 => (tb_seq (S := (fun (_ : Unit) => [.is (iF scrD script'), .is (Jar.lv r8.2), .is (iF nD a3), .is (iF nD n_6), .is (lF (iF nD) found_28), .cl, .is (iF (tpD (tpD nD)) league_9), .is (iF (tpD nD) order_10), .is (iF sD kept_13), .is (iF nD due_14), .is (iF nD odd_15)])) (tb_if (tt (te_or (te_ne (D := sD) (te_repr (D := (lsD nD)) (te_vl rfl) (vn _)) (te_repr (D := (lsD nD)) (te_ls (ta_cH (F := iF nD) (te_v rfl) (ta_cH (F := iF nD) (te_v rfl) (ta_cH (F := iF nD) (te_v rfl) (ta_cH (F := iF nD) (te_v rfl) (ta_nH (iF nD)))))) (Nat.le_of_ble_eq_true rfl)) (vl _)) (vi _) (vi _) (by first | decide | omega)) (te_ne (D := sD) (te_repr (D := nD) (te_k0 (K := iF nD) (r := r31) (tc_i (te_k0 (K := iF (tpD (tpD nD))) (r := r30) (tc_i (te_v rfl) tc_n) (S__law_ranking order_10 r30) (.inl rfl)) tc_n) (S_sign r30 r31) (.inl rfl)) (vi _)) (te_repr (D := nD) (te_v rfl) (vi _)) (vi _) (vi _) (by first | decide | omega)))) (fun q => ⟨⟨⟨trivial, q.1.1⟩, ⟨⟨trivial, ⟨trivial, ⟨trivial, ⟨trivial, trivial⟩⟩⟩⟩, q.1.2⟩⟩, (fun q29 => ⟨⟨⟨⟨⟨⟨trivial, trivial⟩, (cif_h hr30 (nt q29))⟩, trivial⟩, (cif_h hr31 (nt q29))⟩, (q.2 q29).1⟩, ⟨trivial, (q.2 q29).2⟩⟩)⟩)
 (tb_0 (tb_ret (te_cB false) (fun q => trivial) rfl))
 (tb_nil (wk_s (wk_s (wk_s (wk_s (wk_s (wk_s (wk_s (wk_s (wk_s (wk_s (wk_s wk_n))))))))))))) (fun _ =>
 (tb_bo (fun r33 hr33 => (tb_bo (fun r34 hr34 => (tb_seq (S := (fun (_ : Unit) => [.is (iF scrD script'), .is (Jar.lv r8.2), .is (iF nD a3), .is (iF nD n_6), .is (lF (iF nD) found_28), .cl, .is (iF (tpD (tpD nD)) league_9), .is (iF (tpD nD) order_10), .is (iF sD kept_13), .is (iF nD due_14), .is (iF nD odd_15)])) (tb_if (tt (te_ne (D := sD) (te_repr (D := nD) (te_k0 (K := iF nD) (r := r34) (tc_i (te_k0 (K := iF (tpD (tpD nD))) (r := r33) (tc_i (te_v rfl) (tc_i (te_v rfl) tc_n)) (S_renamed league_9 order_10 r33) (.inl rfl)) tc_n) (S_sign r33 r34) (.inl rfl)) (vi _)) (te_repr (D := nD) (te_modNc (te_intN (te_addN (te_v rfl) (te_v rfl))) (te_cN 2) (by decide)) (vi _)) (vi _) (vi _) (by first | decide | omega))) (fun q => ⟨⟨⟨⟨⟨⟨trivial, ⟨trivial, trivial⟩⟩, hr33⟩, trivial⟩, hr34⟩, q.1⟩, ⟨⟨⟨trivial, trivial⟩, trivial⟩, q.2⟩⟩)
 (tb_0 (tb_ret (te_cB false) (fun q => trivial) rfl))
 (tb_nil (wk_s (wk_s (wk_s (wk_s (wk_s (wk_s (wk_s (wk_s (wk_s (wk_s (wk_s wk_n))))))))))))) (fun _ =>
 (tb_bo (fun r36 hr36 => (tb_0 (tb_set (K := iF (tpD (tpD nD))) (te_p1 (te_k1 (K := iF (p2D (tpD (p2D nD nD)) (tpD (tpD nD)))) (B := Jar.lv) (r := r36) (tc_s (tc_i (te_v rfl) (tc_i (te_cN 6) tc_n)) rfl rfl (jar_giv _)) (S__law_walk r8.2 league_9 6 r36)) (te_cN 1)) (fun q => ⟨⟨⟨trivial, ⟨trivial, trivial⟩⟩, hr36⟩, trivial⟩) (fun other_37 =>
 (tb_bo (fun r38 hr38 => (tb_bo (fun r40 hr40 => (tb_if (tt (te_or (te_ne (D := sD) (te_repr (D := nD) (te_k0 (K := iF nD) (r := r38) (tc_i (te_v rfl) tc_n) (S_sign other_37 r38) (.inl rfl)) (vi _)) (te_repr (D := nD) (te_v rfl) (vi _)) (vi _) (vi _) (by first | decide | omega)) (te_or (te_ne (D := nD) (te_k0 (K := iF nD) (r := r40) (tc_i (te_v rfl) tc_n) (S__law_sign other_37 r40) (.inl rfl)) (te_v rfl) (vi _) (vi _) (by first | decide | omega)) (te_ne (D := sD) (te_repr (D := (lsD xD)) (te_ls (ta_cH (F := iF xD) (te_x (te_v rfl)) (ta_cH (F := iF xD) (te_x (te_v rfl)) (ta_nH (iF xD)))) (Nat.le_of_ble_eq_true rfl)) (vl _)) (te_v rfl) (vi _) (vi _) (by first | decide | omega))))) (fun q => ⟨⟨⟨⟨⟨trivial, trivial⟩, hr38⟩, q.1.1⟩, ⟨trivial, q.1.2⟩⟩, (fun q39 => ⟨⟨⟨⟨trivial, trivial⟩, (cif_h hr40 (nt q39))⟩, trivial⟩, (fun q41 => ⟨⟨⟨trivial, ⟨trivial, trivial⟩⟩, ((q.2 q39) q41)⟩, trivial⟩)⟩)⟩)
 (tb_0 (tb_ret (te_cB false) (fun q => trivial) rfl))
 (tb_nil (wk_s (wk_s (wk_c (wk_c (wk_j (wk_c (wk_c (wk_c (wk_c (wk_c (wk_c wk_n)))))))))))))))))) rfl))))))))))))))))) rfl)))))))))) rfl))))))))) rfl rfl rfl)))))) rfl rfl)))))) rfl)))))) (fun s42 =>
 (tb_0 (tb_ret (te_cB true) (fun q => trivial) rfl))))) rfl))))
theorem y_law (n : Nat) : S_law (callF P (n + 4)) := by
  intro   script' r h
  exact (callF_at (P := P) (n := n + 3) (fi := 29) (d := d_law) rfl _).trans (ev_law (cf := callF P (n + 3)) (y__law_draw (n + 2)) (y__law_jar (n + 2)) (y__law_league (n + 0)) (y__law_mixed (n + 1)) (y__law_odd_pairs (n + 2)) (y__law_ranking (n + 1)) (y__law_sign (n + 1)) (y__law_walk (n + 0)) (y_order_sign (n + 2)) (y_ranking (n + 2)) (y_renamed (n + 0)) (y_sign (n + 0)) script' r h)

end Law
namespace Law
open PySem PySem.Spec PyProof.Rows L2 MP TL JM
theorem Jok.mono {k k' : Nat} {J : Jar} (h : Jok k J) (l : k ≤ k') : Jok k' J := ⟨h.far, h.pos, h.cap, h.c0, by have := h.c1; omega, h.big⟩
theorem sz (n : Nat) (h : n ≤ 1000000) : n ≤ sizeLine := by unfold sizeLine; omega
def sortN (r : List Nat) : List Nat := r.mergeSort (leD nD)
theorem sortN_perm (r : List Nat) : (sortN r).Perm r := List.mergeSort_perm ..
theorem sortN_asc {r : List Nat} (h : r.Nodup) : (sortN r).Pairwise (· < ·) := by
  have hp := sortN_perm r
  have h1 : (sortN r).Pairwise fun a b => leD nD a b = true := List.pairwise_mergeSort (fun a b c h1 h2 => by simp only [leD, LeD.le, decide_eq_true_eq] at *; omega) (fun a b => by simp only [leD, LeD.le, Bool.or_eq_true, decide_eq_true_eq]; omega) r
  have h2 : (sortN r).Pairwise (· ≠ ·) := hp.symm.nodup h
  exact (h1.and h2).imp fun {a b} ⟨x, y⟩ => by simp only [leD, LeD.le, decide_eq_true_eq] at x; omega
theorem gd_map {R : Lg} (f : List Nat → List Nat) (h : f [] = []) (x : Nat) : gd (R.map f) x = f (gd R x) := by
  simp only [gd, List.getD_eq_getElem?_getD, List.getElem?_map]
  cases R[x]? with
  | none => simp [h]
  | some r => rfl
theorem sortN_nil : sortN [] = [] := by simp [sortN]
theorem shut_wf {n : Nat} {R : Lg} (T : Tn n R) : Wf n (R.map sortN) := by
  refine ⟨by rw [List.length_map, T.len], fun x => ?_, fun x y h => ?_, fun x y h r => ?_⟩
  · rw [gd_map sortN sortN_nil]; exact sortN_asc (T.nd x)
  · rw [gd_map sortN sortN_nil] at h; exact T.lt x y ((sortN_perm _).subset h)
  · rw [gd_map sortN sortN_nil] at h r
    exact T.anti x y ((sortN_perm _).subset h) ((sortN_perm _).subset r)
theorem shut_tot {n : Nat} {R : Lg} (T : Tot n R) : Tot n (R.map sortN) := fun x y hx hy ne => by
  rw [gd_map sortN sortN_nil, gd_map sortN sortN_nil]
  exact (T x y hx hy ne).imp (fun h => (sortN_perm _).symm.subset h) fun h => (sortN_perm _).symm.subset h
theorem asc_len {k n : Nat} : ∀ {r : List Nat}, r.Pairwise (· < ·) → (∀ x ∈ r, k ≤ x ∧ x < n) → r.length ≤ n - k
  | [], _, _ => Nat.zero_le _
  | x :: r, h, hb => by
    obtain ⟨h1, h2⟩ := List.pairwise_cons.mp h
    have := asc_len (k := x + 1) (n := n) h2 fun y hy => ⟨h1 y hy, (hb y (List.mem_cons_of_mem _ hy)).2⟩
    have := hb x List.mem_cons_self
    rw [List.length_cons]; omega
theorem wf_len {n : Nat} {L : Lg} (W : Wf n L) (x : Nat) : (gd L x).length ≤ n := asc_len (k := 0) (W.asc x) fun y hy => ⟨Nat.zero_le _, W.lt x y hy⟩
theorem tn_len {n : Nat} {R : Lg} (T : Tn n R) (x : Nat) : (gd R x).length ≤ n := by
  have h := asc_len (k := 0) (n := n) (sortN_asc (T.nd x)) fun y hy => ⟨Nat.zero_le _, T.lt x y ((sortN_perm _).subset hy)⟩
  rwa [(sortN_perm _).length_eq] at h
theorem gd_mem {R : Lg} {r : List Nat} (h : r ∈ R) : ∃ x, x < R.length ∧ gd R x = r := by
  obtain ⟨x, hx, e⟩ := List.mem_iff_getElem.mp h
  exact ⟨x, hx, by simp [gd, List.getD_eq_getElem?_getD, List.getElem?_eq_getElem hx, e]⟩
theorem gdD (R : Lg) (x : Nat) : R.getD x default = gd R x := rfl
theorem gdN (R : Lg) (x : Nat) : R.getD x [] = gd R x := rfl
theorem ogD (r : List Nat) (x : Nat) : r.getD x default = og r x := rfl
theorem tn_mem {n : Nat} {R : Lg} (T : Tn n R) {r : List Nat} (h : r ∈ R) : r.length ≤ n := by
  obtain ⟨x, _, rfl⟩ := gd_mem h
  exact tn_len T x
theorem erase_perm {α : Type} : ∀ {l : List α} {i : Nat} {x : α}, l[i]? = some x → (x :: l.eraseIdx i).Perm l
  | a :: l, 0, x, h => by simp at h; subst h; simp
  | a :: l, i + 1, x, h => by
    rw [List.eraseIdx_cons_succ]
    exact (List.Perm.swap a x _).trans ((erase_perm (by simpa using h)).cons a)
/-! the defs of the draws -/
theorem mixed_T {α : Type} [Inhabited α] [DecidableEq α] (D : α → PyData) {k : Nat} {J : Jar} {xs : List α} (h : Jok k J) (hk : k + xs.length ≤ 2 ^ 30) (hl : xs.length ≤ 1000) :
    ∃ ys J', T__law_mixed D J xs = some (ys, J') ∧ ys.Perm xs ∧ Jok (k + xs.length) J' := by
  unfold T__law_mixed
  simp only [lt_eq]
  generalize hw : whlO _ _ _ fuel _ = o
  have q : ∃ s', o = .nx s' ∧ (s'.2.2.Perm xs ∧ Jok (k + xs.length) s'.1) := by
    rw [← hw]
    refine whlO_inv (fun m s => s.2.1.length = m ∧ (s.2.2 ++ s.2.1).Perm xs ∧ ∃ c, c + m = xs.length ∧ Jok (k + c) s.1) _ (fun m s hs => ?_) (fun s hs => ?_) (m := xs.length) (by unfold fuel; omega) ⟨rfl, by simp, 0, by omega, h⟩
    · obtain ⟨J, l, f⟩ := s
      obtain ⟨h1, h2, c, h3, h4⟩ := hs
      simp only at h1 h2 h4 ⊢
      have hf : f.length + l.length = xs.length := by have := h2.length_eq; simpa using this
      obtain ⟨v, J', hv, hJ, e⟩ := draw_T h4 (by omega) (m := l.length) (by omega) (by omega)
      have hx : l[v]? = some (l.getD v default) := by rw [List.getD_eq_getElem?_getD, List.getElem?_eq_getElem hv]; rfl
      refine ⟨trivial, decide_eq_true (fun z => by rw [z] at h1; simp at h1), _, .inl ((bo_e e _).trans (gu_t ⟨⟨hv, by omega⟩, sz _ (by omega)⟩ _)), ?_, ?_, c + 1, by omega, hJ⟩
      · have := List.length_eraseIdx_of_lt hv
        simp only [this]; omega
      · refine List.Perm.trans ?_ h2
        rw [List.append_assoc]
        exact (erase_perm hx).append_left f
    · obtain ⟨J, l, f⟩ := s
      obtain ⟨h1, h2, c, h3, h4⟩ := hs
      simp only at h1 h2 h4 ⊢
      rw [List.length_eq_zero_iff] at h1
      subst h1
      refine ⟨trivial, by simp, by simpa using h2, ?_⟩
      rwa [show xs.length = c by omega]
  obtain ⟨s', rfl, hp, hj⟩ := q
  exact ⟨s'.2.2, s'.1, rfl, hp, hj⟩
theorem pairs_len (n : Nat) : (pairs n).length ≤ n * n := by
  have key : ∀ as : List Nat, (∀ a ∈ as, a < n) → (as.flatMap fun a => (up a n).map fun b => (a, b)).length ≤ as.length * n := by
    intro as
    induction as with
    | nil => intro _; simp
    | cons a as ih =>
      intro h
      have := ih fun b hb => h b (List.mem_cons_of_mem _ hb)
      have l : (up a n).length ≤ n := by simp only [up, List.length_range']; omega
      rw [List.flatMap_cons, List.length_append, List.length_map, List.length_cons, Nat.add_mul]
      omega
  have := key (List.range n) fun a ha => List.mem_range.mp ha
  rwa [List.length_range] at this
theorem matches_T {n : Nat} (hn : n ≤ 100) : T__law_matches n = some (pairs n) := by
  unfold T__law_matches
  simp only [lt_eq]
  rw [gu_t (by omega), forO_app (fun a => (up a n).map fun b => (a, b))]
  · rfl
  · intro pre a rest e
    have ha : a < n := List.mem_range.mp (by rw [e]; simp)
    have hl : ((List.nil ++ pre.flatMap fun a => (up a n).map fun b => (a, b)) : List (Nat × Nat)).length ≤ n * n := by
      have := congrArg (fun l => (l.flatMap fun a => (up a n).map fun b => (a, b)).length) e
      simp only [List.flatMap_append, List.length_append] at this
      have := pairs_len n
      simp only [pairs] at this
      rw [List.nil_append]; omega
    have hnn : n * n ≤ 100 * 100 := Nat.mul_le_mul hn hn
    have hu : (List.range' (a + 1) (n - (a + 1))).length ≤ n := by rw [List.length_range']; omega
    refine gu_t ⟨⟨⟨by omega, by omega⟩, sz _ (by omega)⟩, sz _ ?_⟩ _
    rw [List.length_map]
    omega
theorem shut_T {R : Lg} (hl : ∀ r ∈ R, r.length ≤ 1000) (hR : R.length ≤ 1000) : T__law_shut R = some (R.map sortN) := by
  unfold T__law_shut
  rw [gu_t ⟨sz _ (by omega), fun r hr => sz _ (by have := hl r hr; omega)⟩]
  rfl
theorem shut_Tn {n : Nat} {R : Lg} (T : Tn n R) (hn : n ≤ 100) : T__law_shut R = some (R.map sortN) := shut_T (fun r hr => by have := tn_mem T hr; omega) (by rw [T.len]; omega)
theorem league_T {k n : Nat} {J : Jar} (h : Jok k J) (hk : k ≤ 2 ^ 29) (hn : n ≤ 20) : ∃ L J', T__law_league J n = some (L, J') ∧ Wf n L ∧ Tot n L ∧ Jok (k + 1000) J' := by
  obtain ⟨style, J1, hs6, h1, e1⟩ := draw_T h (by omega) (m := 6) (by decide) (by decide)
  obtain ⟨ord, J2, e2, ho, h2⟩ := mixed_T nD h1 (xs := List.range n) (by rw [List.length_range]; omega) (by rw [List.length_range]; omega)
  rw [List.length_range] at h2
  have hond : ord.Nodup := ho.symm.nodup List.nodup_range
  have holt : ∀ x ∈ ord, x < n := fun x hx => List.mem_range.mp (ho.subset hx)
  have hol : ord.length = n := by rw [ho.length_eq, List.length_range]
  have hpl := pairs_len n
  have hnn : n * n ≤ 20 * 20 := Nat.mul_le_mul hn hn
  unfold T__law_league
  rw [bo_e e1, bo_e e2, gu_t ⟨by omega, by omega, by rw [List.length_range]; exact sz _ (by omega)⟩]
  simp only [lt_eq]
  rw [bo_e (matches_T (n := n) (by omega))]
  generalize hw : forO _ (pairs n) _ = o
  have q : ∃ s', o = .nx s' ∧ (Jok (k + 1 + n + 2 * (pairs n).length) s'.1 ∧ Dr n ord (pairs n) s'.2) := by
    rw [← hw]
    refine forO_inv0 (fun (done : List (Nat × Nat)) (s : Jar × Lg) => Jok (k + 1 + n + 2 * done.length) s.1 ∧ Dr n ord done s.2) ⟨by simpa using h2, ?_⟩ ?_
    · rw [List.map_const', List.length_range]; exact dr_nil n ord
    · rintro pre p rest e ⟨J, R⟩ ⟨hj, dr⟩
      simp only at hj dr
      have hpm : p ∈ pairs n := by rw [e]; simp
      obtain ⟨hij, hjn⟩ := mem_pairs.mp hpm
      have hpre : ∀ q ∈ pre, q.1 < q.2 := fun q hq => (mem_pairs.mp (by rw [e]; exact List.mem_append_left _ hq)).1
      have hnew : (p.1, p.2) ∉ pre := by
        have := pairs_nodup n
        rw [e] at this
        intro hq
        exact (List.nodup_append.mp this).2.2 p hq p List.mem_cons_self rfl
      have hplen : pre.length ≤ 400 := by
        have h3 := congrArg List.length e
        simp only [List.length_append, List.length_cons] at h3
        omega
      have hi : ord[p.1]? = some (ord.getD p.1 default) := by rw [List.getD_eq_getElem?_getD, List.getElem?_eq_getElem (by omega)]; rfl
      have hj2 : ord[p.2]? = some (ord.getD p.2 default) := by rw [List.getD_eq_getElem?_getD, List.getElem?_eq_getElem (by omega)]; rfl
      obtain ⟨v, J', hv, hj', ev⟩ := draw_T hj (m := 2) (by omega) (by decide) (by decide)
      have fin : ∀ (bt : Bool) (J'' : Jar), Jok (k + 1 + n + 2 * pre.length + 2) J'' →
          ∃ s', ((gu ((if bt then ord.getD p.2 default else ord.getD p.1 default) < R.length ∧ (R.getD (if bt then ord.getD p.2 default else ord.getD p.1 default) []).length < sizeLine)
            (.nx (J'', R.set (if bt then ord.getD p.2 default else ord.getD p.1 default) (R.getD (if bt then ord.getD p.2 default else ord.getD p.1 default) [] ++ [if bt then ord.getD p.1 default else ord.getD p.2 default]))) : Out (Lg × Jar) (Jar × Lg) (Jar × Lg)) = .nx s') ∧ Jok (k + 1 + n + 2 * (pre ++ [p]).length) s'.1 ∧ Dr n ord (pre ++ [p]) s'.2 := by
        intro bt J'' hJ''
        have hxy : (ord[p.1]? = some (if bt then ord.getD p.2 default else ord.getD p.1 default) ∧ ord[p.2]? = some (if bt then ord.getD p.1 default else ord.getD p.2 default)) ∨ (ord[p.1]? = some (if bt then ord.getD p.1 default else ord.getD p.2 default) ∧ ord[p.2]? = some (if bt then ord.getD p.2 default else ord.getD p.1 default)) := by
          cases bt
          · exact .inl ⟨hi, hj2⟩
          · exact .inr ⟨hi, hj2⟩
        have hxn : (if bt then ord.getD p.2 default else ord.getD p.1 default) < R.length := by
          rw [dr.tn.len]
          cases bt
          · exact holt _ (List.mem_of_getElem? hi)
          · exact holt _ (List.mem_of_getElem? hj2)
        have hdr := dr_step dr hond holt hij hpre hnew hxy
        refine ⟨_, gu_t ⟨hxn, ?_⟩ _, hJ''.mono (by simp; omega), hdr⟩
        have := tn_len dr.tn (if bt then ord.getD p.2 default else ord.getD p.1 default)
        exact Nat.lt_of_le_of_lt this (by unfold sizeLine; omega)
      have hg : p.1 < ord.length ∧ p.2 < ord.length := ⟨by omega, by omega⟩
      by_cases c1 : style < 2
      · obtain ⟨v2, J'', hv2, hj'', ev2⟩ := draw_T hj' (m := 5) (by omega) (by decide) (by decide)
        obtain ⟨s', e', i'⟩ := fin (decide (style = 1) && decide (((if decide (style = 1) then (v2, J'') else default) : Nat × Jar).1 = 0)) (if decide (style = 1) then ((if decide (style = 1) then (v2, J'') else default) : Nat × Jar).2 else J') (by
          by_cases c2 : style = 1
          · simp only [c2, decide_true, if_true]; exact hj''.mono (by omega)
          · simp only [c2, decide_false, Bool.false_eq_true, if_false]; exact hj'.mono (by omega))
        refine ⟨s', .inl ?_, i'⟩
        simp only [lt_eq]
        rw [gu_t hg, bo_e ev, decide_eq_true c1, if_pos rfl, cif_e ev2, bo_s]
        exact e'
      · by_cases c2 : style = 2
        · obtain ⟨s', e', i'⟩ := fin _ J' (hj'.mono (by omega))
          refine ⟨s', .inl ?_, i'⟩
          simp only [lt_eq]
          rw [gu_t hg, bo_e ev, decide_eq_false c1, if_neg (by simp), decide_eq_true c2, if_pos rfl]
          exact e'
        · obtain ⟨s', e', i'⟩ := fin _ J' (hj'.mono (by omega))
          refine ⟨s', .inl ?_, i'⟩
          simp only [lt_eq]
          rw [gu_t hg, bo_e ev, decide_eq_false c1, if_neg (by simp), decide_eq_false c2, if_neg (by simp)]
          exact e'
  obtain ⟨s', rfl, hj, dr⟩ := q
  rw [nx_bind, bo_e (shut_Tn dr.tn (by omega))]
  exact ⟨_, _, rfl, shut_wf dr.tn, shut_tot (dr_tot dr ho), hj.mono (by omega)⟩

theorem su_list (f : List Nat → Int) (L : Lg) : (L.map f).sum = su L.length fun x => f (gd L x) := by
  induction L with
  | nil => rfl
  | cons r L ih =>
    rw [List.map_cons, List.sum_cons, ih, List.length_cons, su_shift]
    rfl
theorem sum_enT {f : Nat → List Nat → Int} : ∀ (L : Lg) (k : Nat), ((enT k L).map fun p => f p.1 p.2).sum = su L.length fun x => f (k + x) (gd L x)
  | [], _ => rfl
  | r :: L, k => by
    rw [enT, List.map_cons, List.sum_cons, sum_enT L (k + 1), List.length_cons, su_shift]
    congr 1
    refine su_congr fun x _ => ?_
    rw [show k + 1 + x = k + (x + 1) by omega]; rfl
theorem forO_sumZ {α ρ lam : Type} {f : α → Int → Out ρ Int Int} (F : α → Int) : ∀ {as : List α} {s : Int}, (∀ a ∈ as, ∀ s, f a s = .nx (s + F a)) → (forO f as s : Out ρ lam Int) = .nx (s + (as.map F).sum)
  | [], s, _ => by simp [forO]
  | a :: as, s, h => by
    rw [forO_nx (h a List.mem_cons_self s), forO_sumZ F fun b hb => h b (List.mem_cons_of_mem _ hb)]
    simp [Int.add_assoc]
theorem forO_sumN {α ρ lam : Type} {f : α → Nat → Out ρ Nat Nat} (F : α → Nat) : ∀ {as : List α} {s : Nat}, (∀ a ∈ as, ∀ s, f a s = .nx (s + F a)) → (forO f as s : Out ρ lam Nat) = .nx (s + (as.map F).sum)
  | [], s, _ => by simp [forO]
  | a :: as, s, h => by
    rw [forO_nx (h a List.mem_cons_self s), forO_sumN F fun b hb => h b (List.mem_cons_of_mem _ hb)]
    simp [Nat.add_assoc]
theorem sum_cast (xs : List Nat) : ((xs.sum : Nat) : Int) = (xs.map fun (x : Nat) => (x : Int)).sum := (sum_n xs).symm
theorem rows_T {L : Lg} (h : L.length ≤ 1000) : T__law_rows L = some L := by
  unfold T__law_rows
  rw [gu_t (sz _ (by omega)), fin_rt, List.map_id']
theorem turn_T {n : Nat} {R : Lg} (T : Tn n R) (hn : n ≤ 100) {a b : Nat} (h : b ∈ gd R a ∨ a ∈ gd R b) : T__law_turn R a b = some ((), turnM R a b) := by
  have la : a < n := h.elim (fun h => T.len ▸ gd_lt h) fun h => T.lt _ _ h
  have lb : b < n := h.elim (fun h => T.lt _ _ h) fun h => T.len ▸ gd_lt h
  have hl : ∀ x r y, (gd (R.set x ((gd R x).erase r)) y).length < sizeLine := fun x r y => by
    have h1 := tn_len T x
    have h2 := tn_len T y
    have h3 := List.length_erase_le (a := r) (l := gd R x)
    rw [gd_set]
    split <;> (unfold sizeLine; omega)
  unfold T__law_turn
  simp only [lt_eq, decide_eq_true_eq]
  rw [gu_t (by rw [T.len]; exact la)]
  by_cases q : b ∈ R.getD a default
  · rw [if_pos q, gu_t ⟨by rw [T.len]; exact la, q⟩, gu_t ⟨by rw [List.length_set, T.len]; exact lb, hl _ _ _⟩, fin_nx, turnM, if_pos (show b ∈ gd R a from q)]; rfl
  · rw [if_neg q, gu_t ⟨by rw [T.len]; exact lb, h.resolve_left q⟩, gu_t ⟨by rw [List.length_set, T.len]; exact la, hl _ _ _⟩, fin_nx, turnM, if_neg (show ¬ b ∈ gd R a from q)]; rfl
theorem beat_T {L : Lg} {a b : Nat} (h : a < L.length) : T_beat L a b = some (decide (b ∈ gd L a)) := by
  unfold T_beat
  rw [gu_t h]; rfl
theorem wins_T {L : Lg} (h : L.length ≤ 1000) : T_wins L = some (L.map List.length) := by
  unfold T_wins
  rw [gu_t (sz _ (by omega))]; rfl
theorem mo3 {n : Nat} (h : n ≤ 1000) : MO (n : Int) ((n : Int) - 1) ∧ MO ((n : Int) * ((n : Int) - 1)) ((n : Int) - 2) := by
  have h1 : ((n : Int) * ((n : Int) - 1)).natAbs ≤ 1000 * 1000 := by
    rw [Int.natAbs_mul]; exact Nat.mul_le_mul (by omega) (by omega)
  exact ⟨mo_le (by omega) (by omega), mo_le (by omega) (by omega)⟩
theorem cnt_eq (L : Lg) : (((L.length : Int) * ((L.length : Int) - 1)) * ((L.length : Int) - 2)) / 6 - (L.map fun r => ((r.length : Int) * ((r.length : Int) - 1)) / 2).sum = cntM L := by
  rw [su_list fun r => ((r.length : Int) * ((r.length : Int) - 1)) / 2]; rfl
theorem lcount_T {L : Lg} (hL : L.length ≤ 1000) (hr : ∀ r ∈ L, r.length ≤ 1000) : T__law_count L = some (cntM L) := by
  unfold T__law_count
  simp only [lt_eq]
  rw [gu_t ⟨mo3 hL, sz _ (by omega), fun r h => (mo3 (hr r h)).1⟩, fin_rt]
  first | done | exact congrArg some (cnt_eq L)
theorem count_T {L : Lg} (hL : L.length ≤ 1000) (hr : ∀ r ∈ L, r.length ≤ 1000) : T_ring_count L = some (cntM L) := by
  unfold T_ring_count
  simp only [lt_eq]
  have hm : ∀ w ∈ L.map List.length, MO ((w : Nat) : Int) ((w : Int) - 1) := fun w h => by
    obtain ⟨r, hr', rfl⟩ := List.mem_map.mp h
    exact (mo3 (hr r hr')).1
  rw [bo_e (wins_T hL), gu_t ⟨mo3 hL, by rw [List.length_map]; exact sz _ (by omega), hm⟩, fin_rt, List.map_map]
  exact congrArg some (cnt_eq L)
def sgN (L : Lg) : Nat := (signM L).toNat
theorem sgN_eq {L M : Lg} (h : signM L = signM M) : sgN L = sgN M := by rw [sgN, h]; rfl
theorem sgN_lt (L : Lg) : sgN L < 2 := by
  have := sign_01 L
  unfold sgN; omega
theorem sgN_cast (L : Lg) : (sgN L : Int) = signM L := by
  have := sign_01 L
  unfold sgN; omega
theorem upM_eq (L : Lg) : ((enT 0 L).map fun p => (((p.2.filter fun y => decide (y < p.1)).map fun y => y).length : Int)).sum = upM L := by
  rw [sum_enT (f := fun k r => (((r.filter fun y => decide (y < k)).map fun y => y).length : Int))]
  refine su_congr fun x _ => ?_
  rw [Nat.zero_add, List.length_map]; rfl
theorem lsign_T {L : Lg} (hL : L.length ≤ 1000) (hr : ∀ r ∈ L, r.length ≤ 1000) : T__law_sign L = some (sgN L) := by
  unfold T__law_sign
  simp only [lt_eq]
  rw [gu_t ⟨by rw [enT_len]; exact sz _ (by omega), fun p hp => sz _ (by have := hr _ (enT_mem hp); omega)⟩, bo_e (lcount_T hL hr), fin_rt, sum_cast, List.map_map]
  rw [show ((fun (x : Nat) => (x : Int)) ∘ fun (p : Nat × List Nat) => ((p.2.filter fun y => decide (y < p.1)).map fun y => y).length) = fun p => (((p.2.filter fun y => decide (y < p.1)).map fun y => y).length : Int) from rfl, upM_eq, Int.add_comm]
  rfl
theorem sign_T {L : Lg} (hL : L.length ≤ 1000) (hr : ∀ r ∈ L, r.length ≤ 1000) : T_sign L = some (sgN L) := by
  unfold T_sign
  simp only [lt_eq]
  rw [bo_e (count_T hL hr), forO_sumZ fun p => (((p.2.filter fun y => decide (y < p.1)).map fun y => y).length : Int)]
  · rw [nx_bind, fin_rt, upM_eq]; rfl
  · exact fun p hp s => gu_t (sz _ (by have := hr _ (enT_mem hp); omega)) _
theorem wf_rows {n : Nat} {L : Lg} (W : Wf n L) (hn : n ≤ 1000) : L.length ≤ 1000 ∧ ∀ r ∈ L, r.length ≤ 1000 := ⟨by rw [W.len]; exact hn, fun r hr => by
  obtain ⟨x, _, rfl⟩ := gd_mem hr
  have := wf_len W x
  omega⟩
def kindM (R : Lg) (a b : Nat) : Str :=
  if (gd R a).length = (gd R b).length then ("rise" : Str)
  else if (gd R (if b ∈ gd R a then (a, b) else (b, a)).1).length = (gd R (if b ∈ gd R a then (a, b) else (b, a)).2).length + 2 then ("fall" : Str) else ("none" : Str)
theorem kind_T {R : Lg} {a b : Nat} (ha : a < R.length) (hb : b < R.length) : T__law_kind R a b = some (kindM R a b) := by
  unfold T__law_kind
  simp only [lt_eq, decide_eq_true_eq]
  rw [gu_t ⟨ha, hb⟩]
  have hx : (if b ∈ gd R a then (a, b) else (b, a)).1 < R.length := by split <;> assumption
  have hy : (if b ∈ gd R a then (a, b) else (b, a)).2 < R.length := by split <;> assumption
  by_cases h : (R.getD a default).length = (R.getD b default).length
  · rw [if_pos h, rt_bind, fin_rt, kindM, if_pos (show (gd R a).length = (gd R b).length from h)]
  · rw [if_neg h, nx_bind, gu_t ha, gu_t ⟨hx, hy⟩, fin_rt, kindM, if_neg (show ¬ (gd R a).length = (gd R b).length from h)]; rfl
theorem none_ne : ("rise" : Str) ≠ ("none" : Str) ∧ ("fall" : Str) ≠ ("none" : Str) := by decide
/-- what can be turned keeps the sign -/
theorem kind_par {R : Lg} {a b : Nat} (h : kindM R a b ≠ ("none" : Str)) : ((gd R a).length + (gd R b).length) % 2 = 0 := by
  unfold kindM at h
  by_cases q : (gd R a).length = (gd R b).length
  · omega
  · rw [if_neg q] at h
    by_cases m : b ∈ gd R a
    · simp only [if_pos m] at h
      by_cases r : (gd R a).length = (gd R b).length + 2
      · omega
      · rw [if_neg r] at h; exact absurd rfl h
    · simp only [if_neg m] at h
      by_cases r : (gd R b).length = (gd R a).length + 2
      · omega
      · rw [if_neg r] at h; exact absurd rfl h
theorem pick_T {α : Type} [Inhabited α] [DecidableEq α] (D : α → PyData) {k : Nat} {J : Jar} {xs : List α} (h : Jok k J) (hk : k ≤ 2 ^ 30) (h0 : xs ≠ []) (h1 : xs.length ≤ 1000000) : ∃ x J', T__law_pick D J xs = some (x, J') ∧ x ∈ xs ∧ Jok (k + 1) J' := by
  obtain ⟨v, J', hv, hJ, e⟩ := draw_T h hk (m := xs.length) (List.length_pos_iff.mpr h0) (by omega)
  refine ⟨xs.getD v default, J', ?_, ?_, hJ⟩
  · unfold T__law_pick
    rw [bo_e e, gu_t hv]; rfl
  · rw [List.getD_eq_getElem?_getD, List.getElem?_eq_getElem hv]
    exact List.getElem_mem hv
/-- turns that can be done one behind another -/
def turnsM (R : Lg) (ps : List (Nat × Nat)) : Lg := ps.foldl (fun R p => turnM R p.1 p.2) R
theorem turnsM_snoc (R : Lg) (ps : List (Nat × Nat)) (p : Nat × Nat) : turnsM R (ps ++ [p]) = turnM (turnsM R ps) p.1 p.2 := by simp [turnsM]
theorem walk_T {k n most : Nat} {J : Jar} {L : Lg} (h : Jok k J) (hk : k ≤ 2 ^ 29) (hn : n ≤ 20) (W : Wf n L) (Q : Tot n L) (hm : most ≤ 1000) :
    ∃ ps R J', T__law_walk J L most = some ((ps, R.map sortN), J') ∧ R = turnsM L ps ∧ Tn n R ∧ Tot n R ∧ signM R = signM L ∧ ps.length ≤ most ∧ Jok (k + 1 + most) J' := by
  obtain ⟨hL, hr⟩ := wf_rows W (by omega)
  obtain ⟨v, J1, hv, hJ, e⟩ := draw_T h (by omega) (m := most + 1) (by omega) (by omega)
  have hpl := pairs_len n
  have hnn : n * n ≤ 20 * 20 := Nat.mul_le_mul hn hn
  unfold T__law_walk
  rw [bo_e (rows_T hL), W.len, bo_e (matches_T (n := n) (by omega))]
  simp only [lt_eq]
  rw [bo_e e, gu_t (show v < 2 ^ 62 by omega)]
  generalize hw : forO _ (List.range v) _ = o
  have q : ∃ s', o = .nx s' ∧ (s'.2.1 = turnsM L s'.2.2 ∧ Tn n s'.2.1 ∧ Tot n s'.2.1 ∧ signM s'.2.1 = signM L ∧ s'.2.2.length ≤ (List.range v).length ∧ Jok (k + 1 + (List.range v).length) s'.1) := by
    rw [← hw]
    refine forO_inv0 (fun (done : List Nat) (s : Jar × Lg × List (Nat × Nat)) => s.2.1 = turnsM L s.2.2 ∧ Tn n s.2.1 ∧ Tot n s.2.1 ∧ signM s.2.1 = signM L ∧ s.2.2.length ≤ done.length ∧ Jok (k + 1 + done.length) s.1) ⟨rfl, W.tn, Q, rfl, Nat.le_refl _, hJ⟩ ?_
    · rintro pre a rest er ⟨J, R, ps⟩ ⟨i1, i2, i3, i4, i5, i6⟩
      simp only at i1 i2 i3 i4 i5 i6 ⊢
      have hpre : pre.length < v := by
        have := congrArg List.length er
        simp only [List.length_range, List.length_append, List.length_cons] at this
        omega
      have hk : ∀ p ∈ pairs n, T__law_kind R p.1 p.2 = some (kindM R p.1 p.2) := fun p hp => by
        obtain ⟨h1, h2⟩ := mem_pairs.mp hp
        exact kind_T (by rw [i2.len]; omega) (by rw [i2.len]; omega)
      have ef : ((pairs n).filter fun p => decide (ov (T__law_kind R p.1 p.2) ≠ ("none" : Str))).map (fun p => p) = (pairs n).filter fun p => decide (kindM R p.1 p.2 ≠ ("none" : Str)) := by
        rw [List.map_id']
        exact List.filter_congr fun p hp => by rw [hk p hp]; rfl
      have hf : ((pairs n).filter fun p => decide (kindM R p.1 p.2 ≠ ("none" : Str))).length ≤ 400 := Nat.le_trans (List.length_filter_le _ _) (by omega)
      rw [ef]
      generalize hop : (pairs n).filter (fun p => decide (kindM R p.1 p.2 ≠ ("none" : Str))) = op at hf
      have hg : (pairs n).length ≤ sizeLine ∧ ∀ p ∈ pairs n, (T__law_kind R p.1 p.2).isSome = true := ⟨sz _ (by omega), fun p hp => by rw [hk p hp]; rfl⟩
      by_cases hne : op = []
      · refine ⟨(J, R, ps), .inl ?_, i1, i2, i3, i4, by simp; omega, i6.mono (by simp)⟩
        rw [gu_t hg, decide_eq_false (by simpa using hne), if_neg (by simp)]
      · obtain ⟨p, J', ep, hp, hJ'⟩ := pick_T (p2D nD nD) i6 (by omega) hne (by omega)
        rw [← hop] at hp
        obtain ⟨hp1, hp2⟩ := List.mem_filter.mp hp
        obtain ⟨h1, h2⟩ := mem_pairs.mp hp1
        have hkd : kindM R p.1 p.2 ≠ ("none" : Str) := of_decide_eq_true hp2
        have hto : p.2 ∈ gd R p.1 ∨ p.1 ∈ gd R p.2 := i3 p.1 p.2 (by omega) h2 (by omega)
        have hl : ((ps ++ [p]).getLastD default) = p := by simp
        refine ⟨(J', turnM R p.1 p.2, ps ++ [p]), .inl ?_, ?_, (turn_tn i2 hto).1, turn_tot i2 i3 hto, ?_, by simp; omega, hJ'.mono (by simp; omega)⟩
        · rw [gu_t hg, decide_eq_true (by simpa using hne), if_pos rfl, bo_e ep, gu_t (Nat.lt_of_le_of_lt i5 (by unfold sizeLine; omega))]
          simp only [hl]
          rw [bo_e (turn_T i2 (by omega) hto), gu_t ⟨by simp, by simp⟩]
        · rw [turnsM_snoc, i1]
        · rw [turn_sign i2 hto, i4]
          have := kind_par hkd
          have := sign_01 L
          omega
  obtain ⟨s', rfl, q1, q2, q3, q4, q5, q6⟩ := q
  rw [List.length_range] at q5 q6
  rw [nx_bind, bo_e (shut_Tn q2 (by omega))]
  exact ⟨_, _, _, rfl, q1, q2, q3, q4, by omega, q6.mono (by omega)⟩

def oddN (ord : List Nat) : Nat := ((List.range ord.length).map fun i => ((ord.drop (i + 1)).filter fun y => decide (y < og ord i)).length).sum
theorem oddN_cast (ord : List Nat) : (oddN ord : Int) = oddI ord := by
  rw [oddN, sum_cast, List.map_map]; rfl
theorem cut1 {α : Type} (as : List α) (n : Nat) : MP.cutD as (some ((n + 1 : Nat) : Int)) none = as.drop (n + 1) := cut_lo as (n + 1)
theorem odd_sum (ord : List Nat) : ((enT 0 ord).map fun p => (((MP.cutD ord (some ((p.1 + 1 : Nat) : Int)) none).filter fun y => decide (y < p.2)).map fun y => y).length).sum = oddN ord := by
  rw [enT_eq, List.map_map, oddN]
  congr 1
  refine List.map_congr_left fun i _ => ?_
  simp only [Function.comp_apply, Nat.zero_add, cut1, List.length_map]; rfl
theorem osign_T {ord : List Nat} (h : ord.length ≤ 1000) : T_order_sign ord = some (oddN ord % 2) := by
  unfold T_order_sign
  simp only [lt_eq]
  rw [forO_sumN fun p => (((MP.cutD ord (some ((p.1 + 1 : Nat) : Int)) none).filter fun y => decide (y < p.2)).map fun y => y).length]
  · rw [nx_bind, fin_rt, odd_sum, Nat.zero_add]
  · exact fun p hp s => gu_t (sz _ (by rw [cut1, List.length_drop]; omega)) _
theorem lodd_T {ord : List Nat} (h : ord.length ≤ 1000) : T__law_odd_pairs ord = some (oddN ord % 2) := by
  unfold T__law_odd_pairs
  simp only [lt_eq]
  rw [forO_sumN fun p => (((MP.cutD ord (some ((p.1 + 1 : Nat) : Int)) none).filter fun y => decide (y < p.2)).map fun y => y).length]
  · rw [nx_bind, fin_rt, odd_sum, Nat.zero_add]
  · exact fun p hp s => gu_t (sz _ (by rw [cut1, List.length_drop]; omega)) _
theorem ranking_T {n : Nat} {ord : List Nat} (ho : ord.Perm (List.range n)) (hn : n ≤ 1000) : T_ranking ord = some ((rankR ord).map sortN) := by
  have hl := perm_len ho
  unfold T_ranking
  rw [gu_t ⟨by omega, by rw [List.length_range]; exact sz _ (by omega), fun s hs => ⟨(perm_mem ho).mpr (by have := List.mem_range.mp hs; omega), sz _ (by rw [cut1, List.length_drop]; omega)⟩⟩, fin_rt, rankR, List.map_map]
  congr 1
  refine List.map_congr_left fun s _ => ?_
  rw [cut1]; rfl
theorem ext_gd {R S : Lg} (hl : R.length = S.length) (h : ∀ x, x < R.length → gd R x = gd S x) : R = S := by
  refine List.ext_getElem hl fun x h1 h2 => ?_
  have := h x h1
  simpa [gd, List.getD_eq_getElem?_getD, List.getElem?_eq_getElem h1, List.getElem?_eq_getElem h2] using this
theorem lranking_T {n : Nat} {ord : List Nat} (ho : ord.Perm (List.range n)) (hn : n ≤ 1000) : T__law_ranking ord = some ((rankR ord).map sortN) := by
  have hl := perm_len ho
  have hnd := perm_nd ho
  unfold T__law_ranking
  simp only [lt_eq]
  rw [gu_t (sz _ (by omega))]
  generalize hw : forO _ (enT 0 ord) _ = o
  have q : ∃ s', o = .nx s' ∧ (s'.length = n ∧ ∀ x, gd s' x = if x ∈ ord.take (enT 0 ord).length then ord.drop (ord.idxOf x + 1) else []) := by
    rw [← hw]
    refine forO_inv0 (fun (done : List (Nat × Nat)) (s : Lg) => s.length = n ∧ ∀ x, gd s x = if x ∈ ord.take done.length then ord.drop (ord.idxOf x + 1) else []) ⟨by rw [List.length_map, hl], fun x => ?_⟩ ?_
    · simp only [List.length_nil, List.take_zero, List.not_mem_nil, if_false, List.map_const', gd, List.getD_eq_getElem?_getD, List.getElem?_replicate]
      split <;> rfl
    · rintro pre p rest e R ⟨i1, i2⟩
      have hen : (enT 0 ord)[pre.length]? = some p := by rw [e]; simp
      rw [enT_eq, List.getElem?_map] at hen
      have hp : pre.length < ord.length := by
        have := congrArg List.length e
        simp only [enT_len, List.length_append, List.length_cons] at this
        omega
      rw [List.getElem?_range hp] at hen
      simp only [Option.map_some, Nat.zero_add, Option.some.injEq] at hen
      subst hen
      have hx : ord[pre.length]? = some (ord.getD pre.length default) := by rw [List.getD_eq_getElem?_getD, List.getElem?_eq_getElem hp]; rfl
      generalize ord.getD pre.length default = x at hx ⊢
      have hxn : x < n := (perm_mem ho).mp (List.mem_of_getElem? hx)
      have hix : ord.idxOf x = pre.length := by
        obtain ⟨h1, h2⟩ := List.getElem?_eq_some_iff.mp hx
        rw [← h2]; exact List.Nodup.idxOf_getElem hnd _ h1
      have hnot : x ∉ ord.take pre.length := fun h => by
        obtain ⟨i, hi, e⟩ := List.mem_iff_getElem.mp h
        rw [List.length_take] at hi
        rw [List.getElem_take] at e
        obtain ⟨h1, h2⟩ := List.getElem?_eq_some_iff.mp hx
        have := (List.getElem_inj hnd).mp (e.trans h2.symm)
        omega
      have hg : gd R x = [] := by rw [i2, if_neg hnot]
      refine ⟨R.set x (ord.drop (pre.length + 1)), .inl ?_, by rw [List.length_set, i1], fun y => ?_⟩
      · simp only [cut1]
        have hs : (R.getD x []).length + (ord.drop (pre.length + 1)).length ≤ sizeLine := by
          rw [gdN, hg, List.length_drop]
          exact sz _ (by simp; omega)
        rw [gu_t ⟨by rw [i1]; exact hxn, hs⟩, gdN, hg, List.nil_append]
      · rw [gd_set, List.length_append, List.length_singleton, List.take_add_one, hx]
        by_cases q : y = x
        · subst q
          rw [if_pos ⟨rfl, by rw [i1]; exact hxn⟩, if_pos (by simp), hix]
        · rw [if_neg (fun z => q z.1), i2]
          have : y ∈ ord.take pre.length ++ (some x).toList ↔ y ∈ ord.take pre.length := by simp [q]
          simp only [this]
  obtain ⟨s', rfl, h1, h2⟩ := q
  have e : s' = rankR ord := ext_gd (by rw [h1, rankR, List.length_map, List.length_range, hl]) fun x hx => by
    rw [h1] at hx
    rw [h2, enT_len, List.take_length, if_pos ((perm_mem ho).mpr hx), gd_rank ho hx]
  have hR : (rankR ord).length = n := by rw [rankR, List.length_map, List.length_range, hl]
  have hr : ∀ r ∈ rankR ord, r.length ≤ 1000 := fun r hr => by
    obtain ⟨x, hx, rfl⟩ := gd_mem hr
    rw [gd_rank ho (by omega), List.length_drop]; omega
  rw [nx_bind, e, bo_e (shut_T hr (by omega)), fin_rt]
theorem renrow_T {n : Nat} {L : Lg} {ord : List Nat} (hL : L.length = n) (ho : ord.Perm (List.range n)) (hn : n ≤ 1000) {x : Nat} (hx : x < n) : T_renamed_row L ord x = some ((List.range ord.length).filter fun o => decide (og ord o ∈ gd L (og ord x))) := by
  have hl := perm_len ho
  have hb : ∀ o, T_beat L (og ord x) (og ord o) = some (decide (og ord o ∈ gd L (og ord x))) := fun o => beat_T (by rw [hL]; exact og_lt ho hx)
  unfold T_renamed_row
  rw [gu_t ⟨by omega, by rw [List.length_range]; exact sz _ (by omega), fun o h => ⟨⟨by omega, List.mem_range.mp h⟩, by
    show (T_beat L (og ord x) (og ord o)).isSome = true
    rw [hb o]; rfl⟩⟩, fin_rt, List.map_id']
  congr 1
  refine List.filter_congr fun o _ => ?_
  show ov (T_beat L (og ord x) (og ord o)) = _
  rw [hb o]; rfl
theorem renamed_T {n : Nat} {L : Lg} {ord : List Nat} (hL : L.length = n) (ho : ord.Perm (List.range n)) (hn : n ≤ 1000) : T_renamed L ord = some (renM L ord) := by
  have hl := perm_len ho
  have hr : ∀ x ∈ List.range ord.length, T_renamed_row L ord x = some ((List.range ord.length).filter fun o => decide (og ord o ∈ gd L (og ord x))) := fun x hx => renrow_T hL ho hn (by have := List.mem_range.mp hx; omega)
  unfold T_renamed
  rw [gu_t ⟨by omega, by rw [List.length_range]; exact sz _ (by omega), fun x hx => by rw [hr x hx]; rfl⟩, fin_rt, renM]
  congr 1
  exact List.map_congr_left fun x hx => by rw [hr x hx]; rfl
/-! leagues and orders shown -/
theorem sh_rowN {n : Nat} {r : List Nat} (hn : n ≤ 20) (h : ∀ x ∈ r, x < n) (hl : r.length ≤ n) : Sh 1 20 (tpD nD r) := sh_t 20 (fun x hx => sh_n (Nat.lt_trans (h x hx) (Nat.lt_of_le_of_lt hn (by decide)))) (by omega)
theorem sh_lg {n : Nat} {L : Lg} (W : Wf n L) (hn : n ≤ 20) : Sh 2 420 (tpD (tpD nD) L) := sh_t (k := 1) (m := 20) 20 (fun r hr => by
  obtain ⟨x, _, rfl⟩ := gd_mem hr
  exact sh_rowN hn (fun y hy => W.lt x y hy) (wf_len W x)) (by rw [W.len]; exact hn)
theorem sh_ord {n : Nat} {ord : List Nat} (ho : ord.Perm (List.range n)) (hn : n ≤ 20) : Sh 1 20 (tpD nD ord) := sh_rowN hn (fun x hx => (perm_mem ho).mp hx) (by rw [perm_len ho]; exact Nat.le_refl _)
theorem shown_ne {d e : PyData} (h : d = e) : decide (d.shown ≠ e.shown) = false := by rw [h]; simp
theorem n12 {x : Nat} (h : x < 1000000) : x < 10 ^ 12 := Nat.lt_trans h (by decide)

end Law
namespace Law
open PySem PySem.Spec PyProof.Rows L2 MP TL JM
theorem sh_x2 {d e : PyData} (h1 : Sh 2 420 d) (h2 : Sh 2 420 e) : Sh 3 842 (lsD xD [d, e]) := sh_l (k := 2) (m := 420) 2 (sh_c h1 (sh_c h2 sh_e)) (by simp)
theorem law_T {ns : List Int} (hl : ns.length ≤ 63) {B : Nat} (hB : B ≤ 5000000) (hb : ∀ n ∈ ns, n.natAbs < 2 ^ B) : T_law ns = some true := by
  obtain ⟨J0, h0, e0⟩ := jar_T hl hB hb
  unfold T_law
  rw [bo_e e0]
  simp only [lt_eq]
  rw [gu_t (by decide)]
  generalize hw : forO _ (List.range 7) _ = o
  have q : ∃ s', o = .nx s' ∧ Jok (2000 * (List.range 7).length) s' := by
    rw [← hw]
    refine forO_inv0 (fun (done : List Nat) (s : Jar) => Jok (2000 * done.length) s) h0 ?_
    intro pre a rest er J hJ
    have hp : pre.length < 7 := by
      have := congrArg List.length er
      simp only [List.length_range, List.length_append, List.length_cons] at this
      omega
    obtain ⟨v, J1, hv, h1, e1⟩ := draw_T hJ (by omega) (m := 8) (by decide) (by decide)
    generalize hn : 1 + v = n
    have hn8 : n ≤ 8 := by omega
    obtain ⟨L, J2, e2, W, Q, h2⟩ := league_T (n := n) h1 (by omega) (by omega)
    obtain ⟨ord, J3, e3, ho, h3⟩ := mixed_T nD h2 (xs := List.range n) (by rw [List.length_range]; omega) (by rw [List.length_range]; omega)
    rw [List.length_range] at h3
    obtain ⟨ps, R, J4, e4, q1, q2, q3, q4, q5, h4⟩ := walk_T (most := 6) h3 (by omega) (by omega) W Q (by omega)
    have hl := perm_len ho
    have ho1 : ord.length ≤ 1000 := by omega
    have hn1 : n ≤ 1000 := by omega
    obtain ⟨w1, w2⟩ := wf_rows W (by omega)
    have wR := shut_wf q2
    obtain ⟨w3, w4⟩ := wf_rows wR (by omega)
    have wK := shut_wf (rank_tn ho)
    obtain ⟨w5, w6⟩ := wf_rows wK (by omega)
    have wN := ren_wf W ho
    obtain ⟨w7, w8⟩ := wf_rows wN (by omega)
    have sR : sgN (R.map sortN) = sgN L := sgN_eq (by rw [map_sign sortN_perm, q4])
    have sK : sgN ((rankR ord).map sortN) = oddN ord % 2 := by
      have e := sgN_cast ((rankR ord).map sortN)
      rw [map_sign sortN_perm, rank_sign ho, ← oddN_cast] at e
      omega
    have sN : sgN (renM L ord) = (sgN L + oddN ord % 2) % 2 := by
      have e := sgN_cast (renM L ord)
      rw [ren_sign W Q ho, ← oddN_cast, ← sgN_cast] at e
      omega
    have i2 : oddN ord % 2 < 2 := Nat.mod_lt _ (by decide)
    have i1 := sgN_lt L
    have ro1 : RO (lsD xD [tpD (tpD nD) L, tpD nD ord]) := (sh_x2 (sh_lg W (by omega)) ((sh_ord ho (by omega)).mono (by decide) (by decide))).ro (by decide) (by decide)
    have ron : ∀ x : Nat, x < 2 → RO (nD x) := fun x hx => (sh_n (n12 (by omega))).ro (by decide) (by decide)
    have ro4 : RO (lsD nD [sgN L, sgN L, oddN ord % 2, oddN ord % 2]) := (sh_l (k := 0) (m := 0) 4 (sh_c (sh_n (n12 (by omega))) (sh_c (sh_n (n12 (by omega))) (sh_c (sh_n (n12 (by omega))) (sh_c (sh_n (n12 (by omega))) sh_e)))) (by simp)).ro (by decide) (by decide)
    refine ⟨J4, .inl ?_, h4.mono (by simp; omega)⟩
    rw [bo_e e1]
    simp only [hn]
    rw [bo_e e2, bo_e e3, gu_t (show n ≤ 2 ^ 24 by omega), bo_e (lsign_T w1 w2), bo_e (lodd_T ho1), gu_t ro1, cif_e (sign_T w1 w2), bo_s, cif_e (sign_T w1 w2), bo_s, bo_e (sign_T w1 w2), cif_e (osign_T ho1), bo_s, cif_e (osign_T ho1), bo_s, bo_e (ranking_T ho hn1), bo_e (sign_T w5 w6), both, both, sK, gu_t (by simp; exact sz _ (by decide))]
    rw [cif_e (lranking_T ho hn1), bo_s]
    simp only [List.cons_append, List.nil_append, ne_eq, not_true_eq_false, decide_false, Bool.not_false, if_true]
    rw [cif_e (sign_T w5 w6), bo_s]
    simp only [if_true, sK]
    rw [gu_t ⟨⟨ro4, ro4⟩, fun _ => ⟨ron _ i2, ron _ i2⟩⟩]
    simp only [not_true_eq_false, decide_false, Bool.or_false, Bool.false_eq_true, if_false, nx_bind]
    rw [bo_e (renamed_T W.len ho hn1), bo_e (sign_T w7 w8), sN, gu_t ⟨ron _ (Nat.mod_lt _ (by decide)), ron _ (Nat.mod_lt _ (by decide))⟩]
    simp only [not_true_eq_false, decide_false, Bool.false_eq_true, if_false, nx_bind]
    rw [bo_e e4, bo_e (sign_T w3 w4), sR]
    simp only [not_true_eq_false, decide_false, Bool.not_false]
    rw [cif_e (lsign_T w3 w4), bo_s, sR]
    simp only [if_true, not_true_eq_false, decide_false]
    rw [gu_t ⟨⟨ron _ i1, ron _ i1⟩, fun _ _ => ro1⟩]
    simp only [Bool.or_false, Bool.false_eq_true, if_false]
  obtain ⟨s', rfl, _⟩ := q
  rfl
theorem plain {ns : List Int} (hl : ns.length ≤ 63) (hb : ∀ n ∈ ns, Builtin.Int.intBits n ≤ 1048576) : callF P 4 29 [.imm (scrD ns)] = .ok (.imm (.bool true)) [] :=
  y_law 0 ns true (law_T hl (B := 1048576) (by decide) fun n hn => bits_lt (hb n hn))

end Law
namespace Law
open PySem PySem.Spec PyProof.Rows L2 MP
theorem all_mk {Pr : Program} {w : World} {K : PySem.W.Frag} {h : Heap} {mg : Str → Option Value} {fa : Addr} (X : K.In h) (G : h.Ns mainGlobals mg) (hfa : mg "law" = some (.ref fa))
    {oc0 kV0 dc0 pm0 cd0 ct0 : Value} {od0 an0 : Option Addr} {sl0 : Array (Option Value)} {f0 : Addr}
    (a0 : PySem.W.nsIn K mainGlobals "beat" = some (some (.ref f0))) (l0 : K.lookup f0 = some ⟨oc0, od0, .func (PySem.W.fnOf "beat" "beat" (defArgs s_beat) (defBody s_beat) (defScope s_beat) .none kV0 dc0 pm0 an0 cd0 ct0), sl0⟩) (c0 : PySem.W.codeIn K cd0 "beat" = true) (k0 : PySem.W.keepIn K (.ref f0) = true)
    {oc1 kV1 dc1 pm1 cd1 ct1 : Value} {od1 an1 : Option Addr} {sl1 : Array (Option Value)} {f1 : Addr}
    (a1 : PySem.W.nsIn K mainGlobals "wins" = some (some (.ref f1))) (l1 : K.lookup f1 = some ⟨oc1, od1, .func (PySem.W.fnOf "wins" "wins" (defArgs s_wins) (defBody s_wins) (defScope s_wins) .none kV1 dc1 pm1 an1 cd1 ct1), sl1⟩) (c1 : PySem.W.codeIn K cd1 "wins" = true) (k1 : PySem.W.keepIn K (.ref f1) = true)
    {oc2 kV2 dc2 pm2 cd2 ct2 : Value} {od2 an2 : Option Addr} {sl2 : Array (Option Value)} {f2 : Addr}
    (a2 : PySem.W.nsIn K mainGlobals "renamed_row" = some (some (.ref f2))) (l2 : K.lookup f2 = some ⟨oc2, od2, .func (PySem.W.fnOf "renamed_row" "renamed_row" (defArgs s_renamed_row) (defBody s_renamed_row) (defScope s_renamed_row) .none kV2 dc2 pm2 an2 cd2 ct2), sl2⟩) (c2 : PySem.W.codeIn K cd2 "renamed_row" = true) (k2 : PySem.W.keepIn K (.ref f2) = true)
    {oc3 kV3 dc3 pm3 cd3 ct3 : Value} {od3 an3 : Option Addr} {sl3 : Array (Option Value)} {f3 : Addr}
    (a3 : PySem.W.nsIn K mainGlobals "renamed" = some (some (.ref f3))) (l3 : K.lookup f3 = some ⟨oc3, od3, .func (PySem.W.fnOf "renamed" "renamed" (defArgs s_renamed) (defBody s_renamed) (defScope s_renamed) .none kV3 dc3 pm3 an3 cd3 ct3), sl3⟩) (c3 : PySem.W.codeIn K cd3 "renamed" = true) (k3 : PySem.W.keepIn K (.ref f3) = true)
    {oc4 kV4 dc4 pm4 cd4 ct4 : Value} {od4 an4 : Option Addr} {sl4 : Array (Option Value)} {f4 : Addr}
    (a4 : PySem.W.nsIn K mainGlobals "ranking" = some (some (.ref f4))) (l4 : K.lookup f4 = some ⟨oc4, od4, .func (PySem.W.fnOf "ranking" "ranking" (defArgs s_ranking) (defBody s_ranking) (defScope s_ranking) .none kV4 dc4 pm4 an4 cd4 ct4), sl4⟩) (c4 : PySem.W.codeIn K cd4 "ranking" = true) (k4 : PySem.W.keepIn K (.ref f4) = true)
    {oc5 kV5 dc5 pm5 cd5 ct5 : Value} {od5 an5 : Option Addr} {sl5 : Array (Option Value)} {f5 : Addr}
    (a5 : PySem.W.nsIn K mainGlobals "ring_count" = some (some (.ref f5))) (l5 : K.lookup f5 = some ⟨oc5, od5, .func (PySem.W.fnOf "ring_count" "ring_count" (defArgs s_ring_count) (defBody s_ring_count) (defScope s_ring_count) .none kV5 dc5 pm5 an5 cd5 ct5), sl5⟩) (c5 : PySem.W.codeIn K cd5 "ring_count" = true) (k5 : PySem.W.keepIn K (.ref f5) = true)
    {oc6 kV6 dc6 pm6 cd6 ct6 : Value} {od6 an6 : Option Addr} {sl6 : Array (Option Value)} {f6 : Addr}
    (a6 : PySem.W.nsIn K mainGlobals "sign" = some (some (.ref f6))) (l6 : K.lookup f6 = some ⟨oc6, od6, .func (PySem.W.fnOf "sign" "sign" (defArgs s_sign) (defBody s_sign) (defScope s_sign) .none kV6 dc6 pm6 an6 cd6 ct6), sl6⟩) (c6 : PySem.W.codeIn K cd6 "sign" = true) (k6 : PySem.W.keepIn K (.ref f6) = true)
    {oc7 kV7 dc7 pm7 cd7 ct7 : Value} {od7 an7 : Option Addr} {sl7 : Array (Option Value)} {f7 : Addr}
    (a7 : PySem.W.nsIn K mainGlobals "order_sign" = some (some (.ref f7))) (l7 : K.lookup f7 = some ⟨oc7, od7, .func (PySem.W.fnOf "order_sign" "order_sign" (defArgs s_order_sign) (defBody s_order_sign) (defScope s_order_sign) .none kV7 dc7 pm7 an7 cd7 ct7), sl7⟩) (c7 : PySem.W.codeIn K cd7 "order_sign" = true) (k7 : PySem.W.keepIn K (.ref f7) = true)
    {oc8 kV8 dc8 pm8 cd8 ct8 : Value} {od8 an8 : Option Addr} {sl8 : Array (Option Value)} {f8 : Addr}
    (a8 : PySem.W.nsIn K mainGlobals "_law_jar" = some (some (.ref f8))) (l8 : K.lookup f8 = some ⟨oc8, od8, .func (PySem.W.fnOf "_law_jar" "_law_jar" (defArgs s__law_jar) (defBody s__law_jar) (defScope s__law_jar) .none kV8 dc8 pm8 an8 cd8 ct8), sl8⟩) (c8 : PySem.W.codeIn K cd8 "_law_jar" = true) (k8 : PySem.W.keepIn K (.ref f8) = true)
    {oc9 kV9 dc9 pm9 cd9 ct9 : Value} {od9 an9 : Option Addr} {sl9 : Array (Option Value)} {f9 : Addr}
    (a9 : PySem.W.nsIn K mainGlobals "_law_draw" = some (some (.ref f9))) (l9 : K.lookup f9 = some ⟨oc9, od9, .func (PySem.W.fnOf "_law_draw" "_law_draw" (defArgs s__law_draw) (defBody s__law_draw) (defScope s__law_draw) .none kV9 dc9 pm9 an9 cd9 ct9), sl9⟩) (c9 : PySem.W.codeIn K cd9 "_law_draw" = true) (k9 : PySem.W.keepIn K (.ref f9) = true)
    {oc10 kV10 dc10 pm10 cd10 ct10 : Value} {od10 an10 : Option Addr} {sl10 : Array (Option Value)} {f10 : Addr}
    (a10 : PySem.W.nsIn K mainGlobals "_law_pick" = some (some (.ref f10))) (l10 : K.lookup f10 = some ⟨oc10, od10, .func (PySem.W.fnOf "_law_pick" "_law_pick" (defArgs s__law_pick) (defBody s__law_pick) (defScope s__law_pick) .none kV10 dc10 pm10 an10 cd10 ct10), sl10⟩) (c10 : PySem.W.codeIn K cd10 "_law_pick" = true) (k10 : PySem.W.keepIn K (.ref f10) = true)
    {oc11 kV11 dc11 pm11 cd11 ct11 : Value} {od11 an11 : Option Addr} {sl11 : Array (Option Value)} {f11 : Addr}
    (a11 : PySem.W.nsIn K mainGlobals "_law_mixed" = some (some (.ref f11))) (l11 : K.lookup f11 = some ⟨oc11, od11, .func (PySem.W.fnOf "_law_mixed" "_law_mixed" (defArgs s__law_mixed) (defBody s__law_mixed) (defScope s__law_mixed) .none kV11 dc11 pm11 an11 cd11 ct11), sl11⟩) (c11 : PySem.W.codeIn K cd11 "_law_mixed" = true) (k11 : PySem.W.keepIn K (.ref f11) = true)
    {oc12 kV12 dc12 pm12 cd12 ct12 : Value} {od12 an12 : Option Addr} {sl12 : Array (Option Value)} {f12 : Addr}
    (a12 : PySem.W.nsIn K mainGlobals "_law_rows" = some (some (.ref f12))) (l12 : K.lookup f12 = some ⟨oc12, od12, .func (PySem.W.fnOf "_law_rows" "_law_rows" (defArgs s__law_rows) (defBody s__law_rows) (defScope s__law_rows) .none kV12 dc12 pm12 an12 cd12 ct12), sl12⟩) (c12 : PySem.W.codeIn K cd12 "_law_rows" = true) (k12 : PySem.W.keepIn K (.ref f12) = true)
    {oc13 kV13 dc13 pm13 cd13 ct13 : Value} {od13 an13 : Option Addr} {sl13 : Array (Option Value)} {f13 : Addr}
    (a13 : PySem.W.nsIn K mainGlobals "_law_shut" = some (some (.ref f13))) (l13 : K.lookup f13 = some ⟨oc13, od13, .func (PySem.W.fnOf "_law_shut" "_law_shut" (defArgs s__law_shut) (defBody s__law_shut) (defScope s__law_shut) .none kV13 dc13 pm13 an13 cd13 ct13), sl13⟩) (c13 : PySem.W.codeIn K cd13 "_law_shut" = true) (k13 : PySem.W.keepIn K (.ref f13) = true)
    {oc14 kV14 dc14 pm14 cd14 ct14 : Value} {od14 an14 : Option Addr} {sl14 : Array (Option Value)} {f14 : Addr}
    (a14 : PySem.W.nsIn K mainGlobals "_law_turn" = some (some (.ref f14))) (l14 : K.lookup f14 = some ⟨oc14, od14, .func (PySem.W.fnOf "_law_turn" "_law_turn" (defArgs s__law_turn) (defBody s__law_turn) (defScope s__law_turn) .none kV14 dc14 pm14 an14 cd14 ct14), sl14⟩) (c14 : PySem.W.codeIn K cd14 "_law_turn" = true) (k14 : PySem.W.keepIn K (.ref f14) = true)
    {oc15 kV15 dc15 pm15 cd15 ct15 : Value} {od15 an15 : Option Addr} {sl15 : Array (Option Value)} {f15 : Addr}
    (a15 : PySem.W.nsIn K mainGlobals "_law_kind" = some (some (.ref f15))) (l15 : K.lookup f15 = some ⟨oc15, od15, .func (PySem.W.fnOf "_law_kind" "_law_kind" (defArgs s__law_kind) (defBody s__law_kind) (defScope s__law_kind) .none kV15 dc15 pm15 an15 cd15 ct15), sl15⟩) (c15 : PySem.W.codeIn K cd15 "_law_kind" = true) (k15 : PySem.W.keepIn K (.ref f15) = true)
    {oc16 kV16 dc16 pm16 cd16 ct16 : Value} {od16 an16 : Option Addr} {sl16 : Array (Option Value)} {f16 : Addr}
    (a16 : PySem.W.nsIn K mainGlobals "_law_matches" = some (some (.ref f16))) (l16 : K.lookup f16 = some ⟨oc16, od16, .func (PySem.W.fnOf "_law_matches" "_law_matches" (defArgs s__law_matches) (defBody s__law_matches) (defScope s__law_matches) .none kV16 dc16 pm16 an16 cd16 ct16), sl16⟩) (c16 : PySem.W.codeIn K cd16 "_law_matches" = true) (k16 : PySem.W.keepIn K (.ref f16) = true)
    {oc17 kV17 dc17 pm17 cd17 ct17 : Value} {od17 an17 : Option Addr} {sl17 : Array (Option Value)} {f17 : Addr}
    (a17 : PySem.W.nsIn K mainGlobals "_law_league" = some (some (.ref f17))) (l17 : K.lookup f17 = some ⟨oc17, od17, .func (PySem.W.fnOf "_law_league" "_law_league" (defArgs s__law_league) (defBody s__law_league) (defScope s__law_league) .none kV17 dc17 pm17 an17 cd17 ct17), sl17⟩) (c17 : PySem.W.codeIn K cd17 "_law_league" = true) (k17 : PySem.W.keepIn K (.ref f17) = true)
    {oc18 kV18 dc18 pm18 cd18 ct18 : Value} {od18 an18 : Option Addr} {sl18 : Array (Option Value)} {f18 : Addr}
    (a18 : PySem.W.nsIn K mainGlobals "_law_count" = some (some (.ref f18))) (l18 : K.lookup f18 = some ⟨oc18, od18, .func (PySem.W.fnOf "_law_count" "_law_count" (defArgs s__law_count) (defBody s__law_count) (defScope s__law_count) .none kV18 dc18 pm18 an18 cd18 ct18), sl18⟩) (c18 : PySem.W.codeIn K cd18 "_law_count" = true) (k18 : PySem.W.keepIn K (.ref f18) = true)
    {oc19 kV19 dc19 pm19 cd19 ct19 : Value} {od19 an19 : Option Addr} {sl19 : Array (Option Value)} {f19 : Addr}
    (a19 : PySem.W.nsIn K mainGlobals "_law_sign" = some (some (.ref f19))) (l19 : K.lookup f19 = some ⟨oc19, od19, .func (PySem.W.fnOf "_law_sign" "_law_sign" (defArgs s__law_sign) (defBody s__law_sign) (defScope s__law_sign) .none kV19 dc19 pm19 an19 cd19 ct19), sl19⟩) (c19 : PySem.W.codeIn K cd19 "_law_sign" = true) (k19 : PySem.W.keepIn K (.ref f19) = true)
    {oc20 kV20 dc20 pm20 cd20 ct20 : Value} {od20 an20 : Option Addr} {sl20 : Array (Option Value)} {f20 : Addr}
    (a20 : PySem.W.nsIn K mainGlobals "_law_ranking" = some (some (.ref f20))) (l20 : K.lookup f20 = some ⟨oc20, od20, .func (PySem.W.fnOf "_law_ranking" "_law_ranking" (defArgs s__law_ranking) (defBody s__law_ranking) (defScope s__law_ranking) .none kV20 dc20 pm20 an20 cd20 ct20), sl20⟩) (c20 : PySem.W.codeIn K cd20 "_law_ranking" = true) (k20 : PySem.W.keepIn K (.ref f20) = true)
    {oc21 kV21 dc21 pm21 cd21 ct21 : Value} {od21 an21 : Option Addr} {sl21 : Array (Option Value)} {f21 : Addr}
    (a21 : PySem.W.nsIn K mainGlobals "_law_walk" = some (some (.ref f21))) (l21 : K.lookup f21 = some ⟨oc21, od21, .func (PySem.W.fnOf "_law_walk" "_law_walk" (defArgs s__law_walk) (defBody s__law_walk) (defScope s__law_walk) .none kV21 dc21 pm21 an21 cd21 ct21), sl21⟩) (c21 : PySem.W.codeIn K cd21 "_law_walk" = true) (k21 : PySem.W.keepIn K (.ref f21) = true)
    {oc22 kV22 dc22 pm22 cd22 ct22 : Value} {od22 an22 : Option Addr} {sl22 : Array (Option Value)} {f22 : Addr}
    (a22 : PySem.W.nsIn K mainGlobals "_law_odd_pairs" = some (some (.ref f22))) (l22 : K.lookup f22 = some ⟨oc22, od22, .func (PySem.W.fnOf "_law_odd_pairs" "_law_odd_pairs" (defArgs s__law_odd_pairs) (defBody s__law_odd_pairs) (defScope s__law_odd_pairs) .none kV22 dc22 pm22 an22 cd22 ct22), sl22⟩) (c22 : PySem.W.codeIn K cd22 "_law_odd_pairs" = true) (k22 : PySem.W.keepIn K (.ref f22) = true)
    {oc23 kV23 dc23 pm23 cd23 ct23 : Value} {od23 an23 : Option Addr} {sl23 : Array (Option Value)} {f23 : Addr}
    (a23 : PySem.W.nsIn K mainGlobals "law" = some (some (.ref f23))) (l23 : K.lookup f23 = some ⟨oc23, od23, .func (PySem.W.fnOf "law" "law" (defArgs s_law) (defBody s_law) (defScope s_law) .none kV23 dc23 pm23 an23 cd23 ct23), sl23⟩) (c23 : PySem.W.codeIn K cd23 "law" = true) (k23 : PySem.W.keepIn K (.ref f23) = true)
    (z_enumerate : PySem.W.nsIn K mainGlobals "enumerate" = some none)
    (z_int : PySem.W.nsIn K mainGlobals "int" = some none)
    (z_len : PySem.W.nsIn K mainGlobals "len" = some none)
    (z_list : PySem.W.nsIn K mainGlobals "list" = some none)
    (z_range : PySem.W.nsIn K mainGlobals "range" = some none)
    (z_repr : PySem.W.nsIn K mainGlobals "repr" = some none)
    (z_sorted : PySem.W.nsIn K mainGlobals "sorted" = some none)
    (z_sum : PySem.W.nsIn K mainGlobals "sum" = some none)
    (z_tuple : PySem.W.nsIn K mainGlobals "tuple" = some none) :
    ∃ fd : FuncData, (∀ (s : Shared) (v : Value), BindsTo s fd ⟨[v], []⟩ [("script", v)]) ∧ ∀ base : Heap, K.In base → base.Ns mainGlobals mg → FnG Pr w K mg base 4 fa fd ["script"] (spF K noXR (callF P 4) 29 1 []) := by
  have e := hfa.symm.trans (PySem.W.mg_of X G a23)
  cases e
  have F0 := fun_mk (st := s_beat) l0 c0 k0
  have F1 := fun_mk (st := s_wins) l1 c1 k1
  have F2 := fun_mk (st := s_renamed_row) l2 c2 k2
  have F3 := fun_mk (st := s_renamed) l3 c3 k3
  have F4 := fun_mk (st := s_ranking) l4 c4 k4
  have F5 := fun_mk (st := s_ring_count) l5 c5 k5
  have F6 := fun_mk (st := s_sign) l6 c6 k6
  have F7 := fun_mk (st := s_order_sign) l7 c7 k7
  have F8 := fun_mk (st := s__law_jar) l8 c8 k8
  have F9 := fun_mk (st := s__law_draw) l9 c9 k9
  have F10 := fun_mk (st := s__law_pick) l10 c10 k10
  have F11 := fun_mk (st := s__law_mixed) l11 c11 k11
  have F12 := fun_mk (st := s__law_rows) l12 c12 k12
  have F13 := fun_mk (st := s__law_shut) l13 c13 k13
  have F14 := fun_mk (st := s__law_turn) l14 c14 k14
  have F15 := fun_mk (st := s__law_kind) l15 c15 k15
  have F16 := fun_mk (st := s__law_matches) l16 c16 k16
  have F17 := fun_mk (st := s__law_league) l17 c17 k17
  have F18 := fun_mk (st := s__law_count) l18 c18 k18
  have F19 := fun_mk (st := s__law_sign) l19 c19 k19
  have F20 := fun_mk (st := s__law_ranking) l20 c20 k20
  have F21 := fun_mk (st := s__law_walk) l21 c21 k21
  have F22 := fun_mk (st := s__law_odd_pairs) l22 c22 k22
  have F23 := fun_mk (st := s_law) l23 c23 k23
  have b0 := F0.binds (ps := ["league", "a", "b"]) fun _ _ _ _ _ _ us hl => match us, hl with | [_, _, _], _ => rfl
  have b1 := F1.binds (ps := ["league"]) fun _ _ _ _ _ _ us hl => match us, hl with | [_], _ => rfl
  have b2 := F2.binds (ps := ["league", "order", "side"]) fun _ _ _ _ _ _ us hl => match us, hl with | [_, _, _], _ => rfl
  have b3 := F3.binds (ps := ["league", "order"]) fun _ _ _ _ _ _ us hl => match us, hl with | [_, _], _ => rfl
  have b4 := F4.binds (ps := ["order"]) fun _ _ _ _ _ _ us hl => match us, hl with | [_], _ => rfl
  have b5 := F5.binds (ps := ["league"]) fun _ _ _ _ _ _ us hl => match us, hl with | [_], _ => rfl
  have b6 := F6.binds (ps := ["league"]) fun _ _ _ _ _ _ us hl => match us, hl with | [_], _ => rfl
  have b7 := F7.binds (ps := ["order"]) fun _ _ _ _ _ _ us hl => match us, hl with | [_], _ => rfl
  have b8 := F8.binds (ps := ["script"]) fun _ _ _ _ _ _ us hl => match us, hl with | [_], _ => rfl
  have b9 := F9.binds (ps := ["jar", "many"]) fun _ _ _ _ _ _ us hl => match us, hl with | [_, _], _ => rfl
  have b10 := F10.binds (ps := ["jar", "row"]) fun _ _ _ _ _ _ us hl => match us, hl with | [_, _], _ => rfl
  have b11 := F11.binds (ps := ["jar", "row"]) fun _ _ _ _ _ _ us hl => match us, hl with | [_, _], _ => rfl
  have b12 := F12.binds (ps := ["league"]) fun _ _ _ _ _ _ us hl => match us, hl with | [_], _ => rfl
  have b13 := F13.binds (ps := ["rows"]) fun _ _ _ _ _ _ us hl => match us, hl with | [_], _ => rfl
  have b14 := F14.binds (ps := ["rows", "a", "b"]) fun _ _ _ _ _ _ us hl => match us, hl with | [_, _, _], _ => rfl
  have b15 := F15.binds (ps := ["rows", "a", "b"]) fun _ _ _ _ _ _ us hl => match us, hl with | [_, _, _], _ => rfl
  have b16 := F16.binds (ps := ["n"]) fun _ _ _ _ _ _ us hl => match us, hl with | [_], _ => rfl
  have b17 := F17.binds (ps := ["jar", "n"]) fun _ _ _ _ _ _ us hl => match us, hl with | [_, _], _ => rfl
  have b18 := F18.binds (ps := ["league"]) fun _ _ _ _ _ _ us hl => match us, hl with | [_], _ => rfl
  have b19 := F19.binds (ps := ["league"]) fun _ _ _ _ _ _ us hl => match us, hl with | [_], _ => rfl
  have b20 := F20.binds (ps := ["order"]) fun _ _ _ _ _ _ us hl => match us, hl with | [_], _ => rfl
  have b21 := F21.binds (ps := ["jar", "league", "most"]) fun _ _ _ _ _ _ us hl => match us, hl with | [_, _, _], _ => rfl
  have b22 := F22.binds (ps := ["order"]) fun _ _ _ _ _ _ us hl => match us, hl with | [_], _ => rfl
  have b23 := F23.binds (ps := ["script"]) fun _ _ _ _ _ _ us hl => match us, hl with | [_], _ => rfl
  have bk7 : ∀ (s : Shared) (ws : List Value), K.In s.heap → ws.length = 1 → BindsTo s (PySem.W.fnOf "order_sign" "order_sign" (defArgs s_order_sign) (defBody s_order_sign) (defScope s_order_sign) .none kV7 dc7 pm7 an7 cd7 ct7) ⟨[], (["order"] : List Str).zip ws⟩ ((["order"] : List Str).zip ws) := fun s ws _ hl => match ws, hl with | [_], _ => .of_eq rfl
  have bk6 : ∀ (s : Shared) (ws : List Value), K.In s.heap → ws.length = 1 → BindsTo s (PySem.W.fnOf "sign" "sign" (defArgs s_sign) (defBody s_sign) (defScope s_sign) .none kV6 dc6 pm6 an6 cd6 ct6) ⟨[], (["league"] : List Str).zip ws⟩ ((["league"] : List Str).zip ws) := fun s ws _ hl => match ws, hl with | [_], _ => .of_eq rfl
  have m_enumerate := PySem.W.mg_none_of X G z_enumerate
  have m_int := PySem.W.mg_none_of X G z_int
  have m_len := PySem.W.mg_none_of X G z_len
  have m_list := PySem.W.mg_none_of X G z_list
  have m_range := PySem.W.mg_none_of X G z_range
  have m_repr := PySem.W.mg_none_of X G z_repr
  have m_sorted := PySem.W.mg_none_of X G z_sorted
  have m_sum := PySem.W.mg_none_of X G z_sum
  have m_tuple := PySem.W.mg_none_of X G z_tuple
  refine ⟨PySem.W.fnOf "law" "law" (defArgs s_law) (defBody s_law) (defScope s_law) .none kV23 dc23 pm23 an23 cd23 ct23, fun s v => .of_eq rfl, fun base _ _ => ?_⟩
  have ok0 : ∀ n : Nat, FnG Pr w K mg base (n + 1) f0 _ ["league", "a", "b"] (spF K noXR (callF P (n + 1)) 11 3 []) := fun n => k_beat noMono (k := n + 0) F0 (callF_at (P := P) (n := n + 0) (d := d_beat) rfl)
  have ok1 : ∀ n : Nat, FnG Pr w K mg base (n + 1) f1 _ ["league"] (spF K noXR (callF P (n + 1)) 12 1 []) := fun n => k_wins noMono (k := n + 0) F1 (callF_at (P := P) (n := n + 0) (d := d_wins) rfl) m_len m_tuple
  have ok4 : ∀ n : Nat, FnG Pr w K mg base (n + 1) f4 _ ["order"] (spF K noXR (callF P (n + 1)) 24 1 []) := fun n => k_ranking noMono (k := n + 0) F4 (callF_at (P := P) (n := n + 0) (d := d_ranking) rfl) m_len m_range m_sorted m_tuple
  have ok7 : ∀ n : Nat, FnG Pr w K mg base (n + 1) f7 _ ["order"] (spF K noXR (callF P (n + 1)) 27 1 []) := fun n => k_order_sign noMono (k := n + 0) F7 (callF_at (P := P) (n := n + 0) (d := d_order_sign) rfl) m_enumerate m_len
  have ok8 : ∀ n : Nat, FnG Pr w K mg base (n + 1) f8 _ ["script"] (spF K noXR (callF P (n + 1)) 0 1 []) := fun n => k__law_jar noMono (k := n + 0) F8 (callF_at (P := P) (n := n + 0) (d := d__law_jar) rfl) m_int m_len
  have ok9 : ∀ n : Nat, FnG Pr w K mg base (n + 1) f9 _ ["jar", "many"] (spF K noXR (callF P (n + 1)) 1 2 [0]) := fun n => k__law_draw noMono (k := n + 0) F9 (callF_at (P := P) (n := n + 0) (d := d__law_draw) rfl) m_int m_len
  have ok12 : ∀ n : Nat, FnG Pr w K mg base (n + 1) f12 _ ["league"] (spF K noXR (callF P (n + 1)) 7 1 []) := fun n => k__law_rows noMono (k := n + 0) F12 (callF_at (P := P) (n := n + 0) (d := d__law_rows) rfl) m_list
  have ok13 : ∀ n : Nat, FnG Pr w K mg base (n + 1) f13 _ ["rows"] (spF K noXR (callF P (n + 1)) 3 1 []) := fun n => k__law_shut noMono (k := n + 0) F13 (callF_at (P := P) (n := n + 0) (d := d__law_shut) rfl) m_sorted m_tuple
  have ok14 : ∀ n : Nat, FnG Pr w K mg base (n + 1) f14 _ ["rows", "a", "b"] (spF K noXR (callF P (n + 1)) 8 3 [0]) := fun n => k__law_turn noMono (k := n + 0) F14 (callF_at (P := P) (n := n + 0) (d := d__law_turn) rfl)
  have ok15 : ∀ n : Nat, FnG Pr w K mg base (n + 1) f15 _ ["rows", "a", "b"] (spF K noXR (callF P (n + 1)) 20 3 []) := fun n => k__law_kind noMono (k := n + 0) F15 (callF_at (P := P) (n := n + 0) (d := d__law_kind) rfl) m_len
  have ok16 : ∀ n : Nat, FnG Pr w K mg base (n + 1) f16 _ ["n"] (spF K noXR (callF P (n + 1)) 4 1 []) := fun n => k__law_matches noMono (k := n + 0) F16 (callF_at (P := P) (n := n + 0) (d := d__law_matches) rfl) m_range
  have ok18 : ∀ n : Nat, FnG Pr w K mg base (n + 1) f18 _ ["league"] (spF K noXR (callF P (n + 1)) 18 1 []) := fun n => k__law_count noMono (k := n + 0) F18 (callF_at (P := P) (n := n + 0) (d := d__law_count) rfl) m_len m_sum
  have ok22 : ∀ n : Nat, FnG Pr w K mg base (n + 1) f22 _ ["order"] (spF K noXR (callF P (n + 1)) 28 1 []) := fun n => k__law_odd_pairs noMono (k := n + 0) F22 (callF_at (P := P) (n := n + 0) (d := d__law_odd_pairs) rfl) m_enumerate m_int m_len
  have ok2 : ∀ n : Nat, FnG Pr w K mg base (n + 2) f2 _ ["league", "order", "side"] (spF K noXR (callF P (n + 2)) 25 3 []) := fun n => k_renamed_row noMono (k := n + 1) F2 (callF_at (P := P) (n := n + 1) (d := d_renamed_row) rfl) m_len m_range m_tuple (cal_mk (ok0 (n + 0)) (PySem.W.mg_of X G a0) k0 b0)
  have ok5 : ∀ n : Nat, FnG Pr w K mg base (n + 2) f5 _ ["league"] (spF K noXR (callF P (n + 2)) 14 1 []) := fun n => k_ring_count noMono (k := n + 1) F5 (callF_at (P := P) (n := n + 1) (d := d_ring_count) rfl) m_len m_sum (cal_mk (ok1 (n + 0)) (PySem.W.mg_of X G a1) k1 b1)
  have ok10 : ∀ n : Nat, FnG Pr w K mg base (n + 2) f10 _ ["jar", "row"] (spF K noXR (callF P (n + 2)) 6 2 [0]) := fun n => k__law_pick noMono (k := n + 1) F10 (callF_at (P := P) (n := n + 1) (d := d__law_pick) rfl) m_len (cal_mk (ok9 (n + 0)) (PySem.W.mg_of X G a9) k9 b9)
  have ok11 : ∀ n : Nat, FnG Pr w K mg base (n + 2) f11 _ ["jar", "row"] (spF K noXR (callF P (n + 2)) 2 2 [0]) := fun n => k__law_mixed noMono (k := n + 1) F11 (callF_at (P := P) (n := n + 1) (d := d__law_mixed) rfl) m_len m_list (cal_mk (ok9 (n + 0)) (PySem.W.mg_of X G a9) k9 b9)
  have ok19 : ∀ n : Nat, FnG Pr w K mg base (n + 2) f19 _ ["league"] (spF K noXR (callF P (n + 2)) 21 1 []) := fun n => k__law_sign noMono (k := n + 1) F19 (callF_at (P := P) (n := n + 1) (d := d__law_sign) rfl) m_enumerate m_int m_len m_sum (cal_mk (ok18 (n + 0)) (PySem.W.mg_of X G a18) k18 b18)
  have ok20 : ∀ n : Nat, FnG Pr w K mg base (n + 2) f20 _ ["order"] (spF K noXR (callF P (n + 2)) 22 1 []) := fun n => k__law_ranking noMono (k := n + 1) F20 (callF_at (P := P) (n := n + 1) (d := d__law_ranking) rfl) m_enumerate (cal_mk (ok13 (n + 0)) (PySem.W.mg_of X G a13) k13 b13)
  have ok3 : ∀ n : Nat, FnG Pr w K mg base (n + 3) f3 _ ["league", "order"] (spF K noXR (callF P (n + 3)) 26 2 []) := fun n => k_renamed noMono (k := n + 2) F3 (callF_at (P := P) (n := n + 2) (d := d_renamed) rfl) m_len m_range m_tuple (cal_mk (ok2 (n + 0)) (PySem.W.mg_of X G a2) k2 b2)
  have ok6 : ∀ n : Nat, FnG Pr w K mg base (n + 3) f6 _ ["league"] (spF K noXR (callF P (n + 3)) 16 1 []) := fun n => k_sign noMono (k := n + 2) F6 (callF_at (P := P) (n := n + 2) (d := d_sign) rfl) m_enumerate m_len (cal_mk (ok5 (n + 0)) (PySem.W.mg_of X G a5) k5 b5)
  have ok17 : ∀ n : Nat, FnG Pr w K mg base (n + 3) f17 _ ["jar", "n"] (spF K noXR (callF P (n + 3)) 5 2 [0]) := fun n => k__law_league noMono (k := n + 2) F17 (callF_at (P := P) (n := n + 2) (d := d__law_league) rfl) m_list m_range (cal_mk (ok9 (n + 1)) (PySem.W.mg_of X G a9) k9 b9) (cal_mk (ok16 (n + 1)) (PySem.W.mg_of X G a16) k16 b16) (cal_mk (ok11 (n + 0)) (PySem.W.mg_of X G a11) k11 b11) (cal_mk (ok13 (n + 1)) (PySem.W.mg_of X G a13) k13 b13)
  have ok21 : ∀ n : Nat, FnG Pr w K mg base (n + 3) f21 _ ["jar", "league", "most"] (spF K noXR (callF P (n + 3)) 23 3 [0]) := fun n => k__law_walk noMono (k := n + 2) F21 (callF_at (P := P) (n := n + 2) (d := d__law_walk) rfl) m_len m_range m_tuple (cal_mk (ok9 (n + 1)) (PySem.W.mg_of X G a9) k9 b9) (cal_mk (ok15 (n + 1)) (PySem.W.mg_of X G a15) k15 b15) (cal_mk (ok16 (n + 1)) (PySem.W.mg_of X G a16) k16 b16) (cal_mk (ok10 (n + 0)) (PySem.W.mg_of X G a10) k10 b10) (cal_mk (ok12 (n + 1)) (PySem.W.mg_of X G a12) k12 b12) (cal_mk (ok13 (n + 1)) (PySem.W.mg_of X G a13) k13 b13) (cal_mk (ok14 (n + 1)) (PySem.W.mg_of X G a14) k14 b14)
  have ok23 : ∀ n : Nat, FnG Pr w K mg base (n + 4) fa _ ["script"] (spF K noXR (callF P (n + 4)) 29 1 []) := fun n => k_law noMono (k := n + 3) F23 (callF_at (P := P) (n := n + 3) (d := d_law) rfl) m_int m_list m_range m_repr m_tuple (cal_mk (ok9 (n + 2)) (PySem.W.mg_of X G a9) k9 b9) (cal_mk (ok8 (n + 2)) (PySem.W.mg_of X G a8) k8 b8) (cal_mk (ok17 (n + 0)) (PySem.W.mg_of X G a17) k17 b17) (cal_mk (ok11 (n + 1)) (PySem.W.mg_of X G a11) k11 b11) (cal_mk (ok22 (n + 2)) (PySem.W.mg_of X G a22) k22 b22) (cal_mk (ok20 (n + 1)) (PySem.W.mg_of X G a20) k20 b20) (cal_mk (ok19 (n + 1)) (PySem.W.mg_of X G a19) k19 b19) (cal_mk (ok21 (n + 0)) (PySem.W.mg_of X G a21) k21 b21) (cal_mk (ok7 (n + 2)) (PySem.W.mg_of X G a7) k7 b7) (cal_mk (ok4 (n + 2)) (PySem.W.mg_of X G a4) k4 b4) (cal_mk (ok3 (n + 0)) (PySem.W.mg_of X G a3) k3 b3) (cal_mk (ok6 (n + 0)) (PySem.W.mg_of X G a6) k6 b6) (calK_mk (ok7 (n + 2)) (PySem.W.mg_of X G a7) k7 bk7) (calK_mk (ok6 (n + 0)) (PySem.W.mg_of X G a6) k6 bk6)
  exact ok23 0
theorem walk {l : PySem.W.OpenLaw} {q : Program} {loose : List Str} {XP : (Str → Option Value) → Heap → Prop} {YP : World → Heap → Prop} {d : DefRec} {K : Params → PySem.W.Frag} (hn : l.most = some 63) (hdf : d.params.defaults = [])
    (hY : ∀ (w : World) (h : Heap), YP w h → (K w.params).In h)
    (F : ∀ (w : World) (mg : Str → Option Value) (fa : Addr) (h : Heap), (K w.params).In h → h.Ns mainGlobals mg → mg d.name = some (.ref fa) →
      ∃ fd : FuncData, (∀ (s : Shared) (u : Value), BindsTo s fd ⟨[u], []⟩ [("script", u)]) ∧ ∀ base : Heap, (K w.params).In base → base.Ns mainGlobals mg → FnG l.prog w (K w.params) mg base 4 fa fd ["script"] (spF (K w.params) noXR (callF P 4) 29 1 [])) :
    PySem.W.WalkO q loose XP YP l.row.toRowW d [] (fun f vs => PySem.call f vs) :=
  walk_mp (n := 63) hn (by decide) hdf ⟨rfl, by decide, by decide⟩ hY F fun ns hl hb => plain hl hb
end Law
open PySem PySem.W PyProof.Rows
set_option maxRecDepth 100000 in
set_option maxHeartbeats 0 in
theorem PySem.Challenge.cw_levelturns_k17_whole_signs_of_leagues_an_holds : PySem.Challenge.rw_levelturns_k17_whole_signs_of_leagues_an.Holds := by
  w_on; o_law; k_head; (case hw => w_witness2)
  k_fill
  refine Law.walk (l := PySem.Challenge.rw_levelturns_k17_whole_signs_of_leagues_an) rfl rfl (fun w h Y => PySem.W.kIn_of Y) ?F
  case F =>
    intro w mg fa h KX G hmg
    refine' Law.all_mk KX G hmg ?a0 ?l0 ?c0 ?k0 ?a1 ?l1 ?c1 ?k1 ?a2 ?l2 ?c2 ?k2 ?a3 ?l3 ?c3 ?k3 ?a4 ?l4 ?c4 ?k4 ?a5 ?l5 ?c5 ?k5 ?a6 ?l6 ?c6 ?k6 ?a7 ?l7 ?c7 ?k7 ?a8 ?l8 ?c8 ?k8 ?a9 ?l9 ?c9 ?k9 ?a10 ?l10 ?c10 ?k10 ?a11 ?l11 ?c11 ?k11 ?a12 ?l12 ?c12 ?k12 ?a13 ?l13 ?c13 ?k13 ?a14 ?l14 ?c14 ?k14 ?a15 ?l15 ?c15 ?k15 ?a16 ?l16 ?c16 ?k16 ?a17 ?l17 ?c17 ?k17 ?a18 ?l18 ?c18 ?k18 ?a19 ?l19 ?c19 ?k19 ?a20 ?l20 ?c20 ?k20 ?a21 ?l21 ?c21 ?k21 ?a22 ?l22 ?c22 ?k22 ?a23 ?l23 ?c23 ?k23 ?z_enumerate ?z_int ?z_len ?z_list ?z_range ?z_repr ?z_sorted ?z_sum ?z_tuple
    (case a0 => k_is); (case l0 => k_is); (case c0 => k_is); (case k0 => k_is)
    (case a1 => k_is); (case l1 => k_is); (case c1 => k_is); (case k1 => k_is)
    (case a2 => k_is); (case l2 => k_is); (case c2 => k_is); (case k2 => k_is)
    (case a3 => k_is); (case l3 => k_is); (case c3 => k_is); (case k3 => k_is)
    (case a4 => k_is); (case l4 => k_is); (case c4 => k_is); (case k4 => k_is)
    (case a5 => k_is); (case l5 => k_is); (case c5 => k_is); (case k5 => k_is)
    (case a6 => k_is); (case l6 => k_is); (case c6 => k_is); (case k6 => k_is)
    (case a7 => k_is); (case l7 => k_is); (case c7 => k_is); (case k7 => k_is)
    (case a8 => k_is); (case l8 => k_is); (case c8 => k_is); (case k8 => k_is)
    (case a9 => k_is); (case l9 => k_is); (case c9 => k_is); (case k9 => k_is)
    (case a10 => k_is); (case l10 => k_is); (case c10 => k_is); (case k10 => k_is)
    (case a11 => k_is); (case l11 => k_is); (case c11 => k_is); (case k11 => k_is)
    (case a12 => k_is); (case l12 => k_is); (case c12 => k_is); (case k12 => k_is)
    (case a13 => k_is); (case l13 => k_is); (case c13 => k_is); (case k13 => k_is)
    (case a14 => k_is); (case l14 => k_is); (case c14 => k_is); (case k14 => k_is)
    (case a15 => k_is); (case l15 => k_is); (case c15 => k_is); (case k15 => k_is)
    (case a16 => k_is); (case l16 => k_is); (case c16 => k_is); (case k16 => k_is)
    (case a17 => k_is); (case l17 => k_is); (case c17 => k_is); (case k17 => k_is)
    (case a18 => k_is); (case l18 => k_is); (case c18 => k_is); (case k18 => k_is)
    (case a19 => k_is); (case l19 => k_is); (case c19 => k_is); (case k19 => k_is)
    (case a20 => k_is); (case l20 => k_is); (case c20 => k_is); (case k20 => k_is)
    (case a21 => k_is); (case l21 => k_is); (case c21 => k_is); (case k21 => k_is)
    (case a22 => k_is); (case l22 => k_is); (case c22 => k_is); (case k22 => k_is)
    (case a23 => k_is); (case l23 => k_is); (case c23 => k_is); (case k23 => k_is)
    (case z_enumerate => k_is)
    (case z_int => k_is)
    (case z_len => k_is)
    (case z_list => k_is)
    (case z_range => k_is)
    (case z_repr => k_is)
    (case z_sorted => k_is)
    (case z_sum => k_is)
    (case z_tuple => k_is)
