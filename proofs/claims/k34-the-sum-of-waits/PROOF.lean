import PyProof.Rows.All
import Wide.All
import OpenK.AllK
import Wide.FinOn
import HandS.ForMost
import HandS.Wide
import HandS.IsInst
import HandS.Deep
import HandS.Exc
import HandS.ExcIs
import HandS.TupMul
import HandS.Style
import PyProof.StrBlock2
import HandS.Flt
import HandS.SortKw
import KE.DataMinMax
import HandS.Rev
import HandS.Conv
import KE.SortData
import HandS.Codes
import HandS.Text
import HandS.More
import HandS.Defaults
import HandS.SetFor
import HandS.Strs
import HandS.ReHeld
import PySem.Challenge.RW_fordbook_k34_the_sum_of_waits
set_option Elab.async false
set_option linter.all false
set_option maxRecDepth 100000
set_option maxHeartbeats 4000000
namespace PL
open PySem PySem.Spec L2

/-! ### objects -/
def isiT : Nat → String
  | 0 => "int"
  | 1 => "bool"
  | 2 => "tuple"
  | 3 => "list"
  | _ => "str"
/-- a class whose instances have just these attributes -/
structure ClD where
  nm : Str
  ns : List Str
structure ObC (K : PySem.W.Frag) (nm : Str) (ns : List Str) (C : Addr) : Prop where
  at_ : PySem.W.nsIn K mainGlobals nm = some (some (.ref C))
  cl : Cls K C
  ha : PySem.W.findIn K (.ref C) "__class__" = some (some (.builtin "object.__class__"))
  hn : PySem.W.specialIn K (.builtin "object.__class__") "__get__" = some (some (.builtin "getset_descriptor.__get__"))
  tk : PySem.W.takesIn K (.builtin "object.__class__") = some true
  hm : PySem.W.mroIn K C (.type "object") = some true
  kit : ∀ T < 5, PySem.W.kitOne K (.ref C) (.type (isiT T)) = some false
  na : ∀ f ∈ ns, NoAttr K C f
/-- a caught error is kept as a thing of its own -/
def XO (a : Addr) (cls : Value) (d : Option Addr) : HO := .ext fun h => ∃ oe vs, h.get? a = some oe ∧ Zc cls d oe ∧ oe.data = .fields vs
/-- the class of that name -/
structure ExAt (K : PySem.W.Frag) (nm : Str) (C : Addr) : Prop where
  at_ : PySem.W.nsIn K mainGlobals nm = some (some (.ref C))
  ec : ExcC K C
  kit : ∀ T < 5, PySem.W.kitOne K (.ref C) (.type (isiT T)) = some false
/-- a kept error as a datum: its class's name -/
def exD (x : Str) : PyData := .dict [(.none, .str x)]
/-- an object as a datum: its class, its attributes' names, what they hold -/
def obD (c : ClD) (ds : List PyData) : PyData := .dict [(.str c.nm, .tuple ds), (.none, .list (c.ns.map .str))]
/-! ### data -/
mutual
inductive Dp (K : PySem.W.Frag) (H : Hp) : V → PyData → Prop
  | non : Dp K H .non .none
  | bl (b : Bool) : Dp K H (.bl b) (.bool b)
  | int (i : Int) : Dp K H (.int i) (.int i)
  | str (x : Str) : Dp K H (.str x) (.str x)
  | lst {a : Addr} {xs : List V} {ds : List PyData} : SqL K H a xs → DpAll K H xs ds → Dp K H (.ref a) (.list ds)
  | tup {a : Addr} {xs : List V} {ds : List PyData} : SqT K H a xs → DpAll K H xs ds → Dp K H (.ref a) (.tuple ds)
  | ob {a C dx : Addr} {fs : List (Str × V)} {nm : Str} {ns : List Str} {ds : List PyData} : H a = some (.ins C dx fs) → ObC K nm ns C → fs.map (·.1) = ns.take fs.length → DpAll K H (fs.map (·.2)) ds → Dp K H (.ref a) (.dict [(.str nm, .tuple ds), (.none, .list (ns.map .str))])
  | ex {a C : Addr} {nm : Str} : H a = some (XO a (.ref C) none) → ExAt K nm C → Dp K H (.ref a) (.dict [(.none, .str nm)])
inductive DpAll (K : PySem.W.Frag) (H : Hp) : List V → List PyData → Prop
  | nil : DpAll K H [] []
  | cons {v : V} {vs : List V} {d : PyData} {ds : List PyData} : Dp K H v d → DpAll K H vs ds → DpAll K H (v :: vs) (d :: ds)
end
mutual
/-- no object in it -/
def noOb : PyData → Bool
  | .list ds => noObs ds
  | .tuple ds => noObs ds
  | .dict _ => false
  | .none => true
  | .bool _ => true
  | .int _ => true
  | .str _ => true
def noObs : List PyData → Bool
  | [] => true
  | d :: ds => noOb d && noObs ds
end
mutual
theorem Dp.kit {K : PySem.W.Frag} {H : Hp} : ∀ {v : V} {d : PyData}, Dp K H v d → noOb d = true → L2.Dp K H v d
  | _, _, .non, _ => .non
  | _, _, .bl b, _ => .bl b
  | _, _, .int i, _ => .int i
  | _, _, .str x, _ => .str x
  | _, _, .lst h r, n => .lst h (r.kit n)
  | _, _, .tup h r, n => .tup h (r.kit n)
  | _, _, .ob _ _ _ _, n => Bool.noConfusion n
  | _, _, .ex _ _, n => Bool.noConfusion n
theorem DpAll.kit {K : PySem.W.Frag} {H : Hp} : ∀ {vs : List V} {ds : List PyData}, DpAll K H vs ds → noObs ds = true → L2.DpAll K H vs ds
  | _, _, .nil, _ => .nil
  | _, _, .cons r s, n => by
    have n : (noOb _ && noObs _) = true := n
    rw [Bool.and_eq_true] at n
    exact .cons (r.kit n.1) (s.kit n.2)
end
mutual
theorem noOb_lay : ∀ {d : PyData}, d.canLay0 = true → noOb d = true
  | .none, _ => rfl
  | .bool _, _ => rfl
  | .int _, _ => rfl
  | .str _, _ => rfl
  | .list xs, h => noObs_lay (by simpa [PyData.canLay0] using h)
  | .tuple xs, h => noObs_lay (by simpa [PyData.canLay0] using h)
  | .dict _, h => nomatch h
theorem noObs_lay : ∀ {ds : List PyData}, PyData.canLayAll0 ds = true → noObs ds = true
  | [], _ => rfl
  | d :: ds, h => by
    have h' : d.canLay0 = true ∧ PyData.canLayAll0 ds = true := by simpa [PyData.canLayAll0] using h
    show (noOb d && noObs ds) = true
    rw [noOb_lay h'.1, noObs_lay h'.2]; rfl
end
theorem Dp.sh {K : PySem.W.Frag} {H : Hp} {v : V} {d : PyData} (h : Dp K H v d) (s : SeqAt.shaped d = true) : L2.Dp K H v d := h.kit (noOb_lay (SeqAt.canLay_of_shaped s))
theorem dp_ref_l {K : PySem.W.Frag} {H : Hp} {v : V} {ds : List PyData} (h : Dp K H v (.list ds)) : ∃ p, v = .ref p := by
  cases h with | lst _ _ => exact ⟨_, rfl⟩
theorem dp_ref_t {K : PySem.W.Frag} {H : Hp} {v : V} {ds : List PyData} (h : Dp K H v (.tuple ds)) : ∃ p, v = .ref p := by
  cases h with | tup _ _ => exact ⟨_, rfl⟩

/-- what may be changed by its owner -/
def ownO : HO → Bool
  | .lst _ => true
  | .ins _ _ _ => true
  | _ => false
/-! ### values with exclusive lists -/
mutual
inductive Rx (K : PySem.W.Frag) (H : Hp) : V → PyData → List Addr → Prop
  | non : Rx K H .non .none []
  | bl (b : Bool) : Rx K H (.bl b) (.bool b) []
  | int (i : Int) : Rx K H (.int i) (.int i) []
  | str (x : Str) : Rx K H (.str x) (.str x) []
  | lst {a : Addr} {xs : List V} {ds : List PyData} {F : List Addr} : H a = some (.lst xs) → RxAll K H xs ds F → Rx K H (.ref a) (.list ds) (a :: F)
  | tup {a : Addr} {xs : List V} {ds : List PyData} {F : List Addr} : SqT K H a xs → RxAll K H xs ds F → Rx K H (.ref a) (.tuple ds) F
  | ob {a C dx : Addr} {fs : List (Str × V)} {nm : Str} {ns : List Str} {ds : List PyData} {F : List Addr} : H a = some (.ins C dx fs) → ObC K nm ns C → fs.map (·.1) = ns.take fs.length → RxAll K H (fs.map (·.2)) ds F → Rx K H (.ref a) (.dict [(.str nm, .tuple ds), (.none, .list (ns.map .str))]) (a :: F)
  | ex {a C : Addr} {nm : Str} : H a = some (XO a (.ref C) none) → ExAt K nm C → Rx K H (.ref a) (.dict [(.none, .str nm)]) []
inductive RxAll (K : PySem.W.Frag) (H : Hp) : List V → List PyData → List Addr → Prop
  | nil : RxAll K H [] [] []
  | cons {v : V} {vs : List V} {d : PyData} {ds : List PyData} {F F' : List Addr} : Rx K H v d F → RxAll K H vs ds F' → RxAll K H (v :: vs) (d :: ds) (F ++ F')
end

section
variable {K : PySem.W.Frag} {H H' : Hp}
mutual
theorem Rx.dp : ∀ {v : V} {d : PyData} {F : List Addr}, Rx K H v d F → Dp K H v d
  | _, _, _, .non => .non
  | _, _, _, .bl b => .bl b
  | _, _, _, .int i => .int i
  | _, _, _, .str x => .str x
  | _, _, _, .lst h r => .lst (SqL.of h) r.dp
  | _, _, _, .tup h r => .tup h r.dp
  | _, _, _, .ob h c p r => .ob h c p r.dp
  | _, _, _, .ex h c => .ex h c
theorem RxAll.dp : ∀ {vs : List V} {ds : List PyData} {F : List Addr}, RxAll K H vs ds F → DpAll K H vs ds
  | _, _, _, .nil => .nil
  | _, _, _, .cons r s => .cons r.dp s.dp
end

theorem sqT_same (e : Same H H') {a : Addr} {xs : List V} (h : SqT K H a xs) : SqT K H' a xs := by
  rcases h with (h | ⟨o, h⟩) | h
  · exact .inl (.inl (e _ _ h))
  · exact .inl (.inr ⟨o, e _ _ h⟩)
  · exact .inr h
mutual
theorem Rx.same (e : Same H H') : ∀ {v : V} {d : PyData} {F : List Addr}, Rx K H v d F → Rx K H' v d F
  | _, _, _, .non => .non
  | _, _, _, .bl b => .bl b
  | _, _, _, .int i => .int i
  | _, _, _, .str x => .str x
  | _, _, _, .lst h r => .lst (e _ _ h) (r.same e)
  | _, _, _, .tup h r => .tup (sqT_same e h) (r.same e)
  | _, _, _, .ob h c p r => .ob (e _ _ h) c p (r.same e)
  | _, _, _, .ex h c => .ex (e _ _ h) c
theorem RxAll.same (e : Same H H') : ∀ {vs : List V} {ds : List PyData} {F : List Addr}, RxAll K H vs ds F → RxAll K H' vs ds F
  | _, _, _, .nil => .nil
  | _, _, _, .cons r s => .cons (r.same e) (s.same e)
end
mutual
theorem dp_same (e : Same H H') : ∀ {v : V} {d : PyData}, Dp K H v d → Dp K H' v d
  | _, _, .non => .non
  | _, _, .bl b => .bl b
  | _, _, .int i => .int i
  | _, _, .str x => .str x
  | _, _, .lst h r => .lst (Same.seq e h) (dpAll_same e r)
  | _, _, .tup h r => .tup (sqT_same e h) (dpAll_same e r)
  | _, _, .ob h c p r => .ob (e _ _ h) c p (dpAll_same e r)
  | _, _, .ex h c => .ex (e _ _ h) c
theorem dpAll_same (e : Same H H') : ∀ {vs : List V} {ds : List PyData}, DpAll K H vs ds → DpAll K H' vs ds
  | _, _, .nil => .nil
  | _, _, .cons r s => .cons (dp_same e r) (dpAll_same e s)
end

mutual
theorem Rx.mem : ∀ {v : V} {d : PyData} {F : List Addr}, Rx K H v d F → ∀ p ∈ F, ∃ o, H p = some o ∧ ownO o = true
  | _, _, _, .lst h r, p, hp => by
    rcases List.mem_cons.mp hp with rfl | hp
    · exact ⟨_, h, rfl⟩
    · exact r.mem p hp
  | _, _, _, .tup h r, p, hp => r.mem p hp
  | _, _, _, .ob h c q r, p, hp => by
    rcases List.mem_cons.mp hp with rfl | hp
    · exact ⟨_, h, rfl⟩
    · exact r.mem p hp
  | _, _, _, .ex _ _, p, hp => absurd hp (by simp)
  | _, _, _, .non, p, hp => absurd hp (by simp)
  | _, _, _, .bl b, p, hp => absurd hp (by simp)
  | _, _, _, .int i, p, hp => absurd hp (by simp)
  | _, _, _, .str x, p, hp => absurd hp (by simp)
theorem RxAll.mem : ∀ {vs : List V} {ds : List PyData} {F : List Addr}, RxAll K H vs ds F → ∀ p ∈ F, ∃ o, H p = some o ∧ ownO o = true
  | _, _, _, .nil, p, hp => absurd hp (by simp)
  | _, _, _, .cons r s, p, hp => by
    rcases List.mem_append.mp hp with hp | hp
    · exact r.mem p hp
    · exact s.mem p hp
end

theorem sqT_upd0 {p : Addr} {u o : HO} (hp : H p = some u) (hu : ownO u = true) {a : Addr} {xs : List V} (h : SqT K H a xs) : SqT K (upd H p o) a xs := by
  rcases h with (h | ⟨u, h⟩) | h
  · have : a ≠ p := ne_of h hp (fun e => by subst e; cases hu)
    exact .inl (.inl (by rw [upd_ne this]; exact h))
  · have : a ≠ p := ne_of h hp (fun e => by subst e; cases hu)
    exact .inl (.inr ⟨_, by rw [upd_ne this]; exact h⟩)
  · exact .inr h
theorem sqT_upd {p : Addr} {zs : List V} {o : HO} (hp : H p = some (.lst zs)) {a : Addr} {xs : List V} (h : SqT K H a xs) : SqT K (upd H p o) a xs := sqT_upd0 hp rfl h
mutual
theorem Rx.upd0 {p : Addr} {u o : HO} (hp : H p = some u) (hu : ownO u = true) : ∀ {v : V} {d : PyData} {F : List Addr}, Rx K H v d F → p ∉ F → Rx K (upd H p o) v d F
  | _, _, _, .non, _ => .non
  | _, _, _, .bl b, _ => .bl b
  | _, _, _, .int i, _ => .int i
  | _, _, _, .str x, _ => .str x
  | _, _, _, .lst h r, n => .lst (by rw [upd_ne (fun e => n (by rw [← e]; exact List.mem_cons_self))]; exact h) (r.upd0 hp hu (fun z => n (List.mem_cons_of_mem _ z)))
  | _, _, _, .tup h r, n => .tup (sqT_upd0 hp hu h) (r.upd0 hp hu n)
  | _, _, _, .ob h c q r, n => .ob (by rw [upd_ne (fun e => n (by rw [← e]; exact List.mem_cons_self))]; exact h) c q (r.upd0 hp hu (fun z => n (List.mem_cons_of_mem _ z)))
  | _, _, _, .ex h c, _ => .ex (by rw [upd_ne (ne_of h hp (fun z => by rw [← z] at hu; cases hu))]; exact h) c
theorem RxAll.upd0 {p : Addr} {u o : HO} (hp : H p = some u) (hu : ownO u = true) : ∀ {vs : List V} {ds : List PyData} {F : List Addr}, RxAll K H vs ds F → p ∉ F → RxAll K (upd H p o) vs ds F
  | _, _, _, .nil, _ => .nil
  | _, _, _, .cons r s, n => .cons (r.upd0 hp hu (fun z => n (List.mem_append_left _ z))) (s.upd0 hp hu (fun z => n (List.mem_append_right _ z)))
end
theorem Rx.upd {p : Addr} {zs : List V} {o : HO} (hp : H p = some (.lst zs)) {v : V} {d : PyData} {F : List Addr} (r : Rx K H v d F) (n : p ∉ F) : Rx K (upd H p o) v d F := r.upd0 hp rfl n
theorem RxAll.upd {p : Addr} {zs : List V} {o : HO} (hp : H p = some (.lst zs)) {vs : List V} {ds : List PyData} {F : List Addr} (r : RxAll K H vs ds F) (n : p ∉ F) : RxAll K (upd H p o) vs ds F := r.upd0 hp rfl n

def isEx : List (PyData × PyData) → Bool
  | [(.none, .str _)] => true
  | _ => false
mutual
def flat : PyData → Bool
  | .list _ => false
  | .tuple ds => flats ds
  | .dict kv => isEx kv
  | .none => true
  | .bool _ => true
  | .int _ => true
  | .str _ => true
def flats : List PyData → Bool
  | [] => true
  | d :: ds => flat d && flats ds
end
mutual
theorem dp_flat : ∀ {v : V} {d : PyData}, Dp K H v d → flat d = true → Rx K H v d []
  | _, _, .non, _ => .non
  | _, _, .bl b, _ => .bl b
  | _, _, .int i, _ => .int i
  | _, _, .str x, _ => .str x
  | _, _, .lst h r, f => by simp [flat] at f
  | _, _, .tup h r, f => .tup h (dpAll_flat r (by simpa [flat] using f))
  | _, _, .ob h c q r, f => by simp [flat, isEx] at f
  | _, _, .ex h c, _ => .ex h c
theorem dpAll_flat : ∀ {vs : List V} {ds : List PyData}, DpAll K H vs ds → flats ds = true → RxAll K H vs ds []
  | _, _, .nil, _ => .nil
  | _, _, .cons r s, f => by
    simp only [flats, Bool.and_eq_true] at f
    exact RxAll.cons (F := []) (F' := []) (dp_flat r f.1) (dpAll_flat s f.2)
end

/-! ### what is hidden -/
def hide (H : Hp) (E : List Addr) : Hp := fun b => if b ∈ E then none else H b
theorem hide_of {E : List Addr} {b : Addr} (n : b ∉ E) : hide H E b = H b := by unfold hide; rw [if_neg n]
theorem hide_in {E : List Addr} {b : Addr} (n : b ∈ E) : hide H E b = none := by unfold hide; rw [if_pos n]
theorem hide_nil : hide H [] = H := by funext b; unfold hide; simp
theorem hide_same {E : List Addr} : Same (hide H E) H := fun b o e => by
  unfold hide at e
  split at e
  · cases e
  · exact e
theorem hide_mono {E E' : List Addr} (h : ∀ b, b ∈ E' → b ∈ E) : Same (hide H E) (hide H E') := fun b o e => by
  unfold hide at e ⊢
  split at e
  · cases e
  · rename_i n
    rw [if_neg (fun z => n (h b z))]
    exact e
theorem hide_ext {E : List Addr} (s : Same H H') : Same (hide H E) (hide H' E) := fun b o e => by
  unfold hide at e ⊢
  split at e
  · cases e
  · rename_i n
    rw [if_neg n]
    exact s _ _ e
theorem hide_upd_in {E : List Addr} {p : Addr} {o : HO} (h : p ∈ E) : hide (upd H p o) E = hide H E := by
  funext b
  unfold hide
  split
  · rfl
  · rename_i n
    exact upd_ne (fun e => n (by rw [e]; exact h))
theorem same_upd {p : Addr} {o : HO} (h : H p = none) : Same H (upd H p o) := fun b x e => by
  rw [upd_ne (ne_of_none e h)]
  exact e
end

section
variable {K : PySem.W.Frag} {H : Hp} {E : List Addr}
theorem sqT_hide (hE : ∀ p ∈ E, ∃ o, H p = some o ∧ ownO o = true) {a : Addr} {xs : List V} (h : SqT K H a xs) : SqT K (hide H E) a xs := by
  rcases h with (h | ⟨u, h⟩) | h
  · refine .inl (.inl ?_)
    rw [hide_of]
    · exact h
    · intro z
      obtain ⟨_, e, w⟩ := hE a z
      rw [h] at e; cases e; cases w
  · refine .inl (.inr ⟨u, ?_⟩)
    rw [hide_of]
    · exact h
    · intro z
      obtain ⟨_, e, w⟩ := hE a z
      rw [h] at e; cases e; cases w
  · exact .inr h
mutual
theorem rx_hide (hE : ∀ p ∈ E, ∃ o, H p = some o ∧ ownO o = true) : ∀ {v : V} {d : PyData} {F : List Addr}, (∀ p ∈ F, p ∉ E) → Rx K H v d F → Rx K (hide H E) v d F
  | _, _, _, _, .non => .non
  | _, _, _, _, .bl b => .bl b
  | _, _, _, _, .int i => .int i
  | _, _, _, _, .str x => .str x
  | _, _, _, n, .lst h r => .lst (by rw [hide_of (n _ List.mem_cons_self)]; exact h) (rxAll_hide hE (fun p hp => n p (List.mem_cons_of_mem _ hp)) r)
  | _, _, _, n, .tup h r => .tup (sqT_hide hE h) (rxAll_hide hE n r)
  | _, _, _, n, .ob h c q r => .ob (by rw [hide_of (n _ List.mem_cons_self)]; exact h) c q (rxAll_hide hE (fun p hp => n p (List.mem_cons_of_mem _ hp)) r)
  | _, _, _, n, .ex h c => .ex (by
      rw [hide_of]
      · exact h
      · intro z
        obtain ⟨_, e, w⟩ := hE _ z
        rw [h] at e; cases e; cases w) c
theorem rxAll_hide (hE : ∀ p ∈ E, ∃ o, H p = some o ∧ ownO o = true) : ∀ {vs : List V} {ds : List PyData} {F : List Addr}, (∀ p ∈ F, p ∉ E) → RxAll K H vs ds F → RxAll K (hide H E) vs ds F
  | _, _, _, _, .nil => .nil
  | _, _, _, n, .cons r s => .cons (rx_hide hE (fun p hp => n p (List.mem_append_left _ hp)) r) (rxAll_hide hE (fun p hp => n p (List.mem_append_right _ hp)) s)
end
end

/-! ### the state -/
/-- un: all its lists are its own; fr: shared, never changed; br: read only while nothing is changed; ro: shared, perhaps locked; rt: a list of its own with shared items; io: the thing of its own that the def changes for its caller -/
inductive Kd where | un | fr | br | ro | rt | io
  deriving DecidableEq
structure Cel where
  v : V
  k : Kd
  d : PyData
/-- lists that stand beside: owned by those who called, as they are -/
structure Frm where
  x : List Addr
  h : Hp
  v : V
structure Gh where
  g : Hp
  b : Hp
  f : Frm
def Hp0 : Hp := fun _ => none
def Frm0 : Frm := ⟨[], Hp0, .non⟩

section
variable (K : PySem.W.Frag) (H : Hp)
/-- the lists that the cells own -/
inductive Excl (X : Frm) : List Cel → List Addr → Prop
  | nil : (∀ p ∈ X.x, ∃ o, X.h p = some o ∧ H p = some o ∧ ownO o = true) → Excl X [] X.x
  | un {v d F L E} : Rx K H v d F → Excl X L E → Excl X (⟨v, .un, d⟩ :: L) (F ++ E)
  | fr {v d L E} : Excl X L E → Excl X (⟨v, .fr, d⟩ :: L) E
  | br {v d L E} : Excl X L E → Excl X (⟨v, .br, d⟩ :: L) E
  | ro {v d L E} : Excl X L E → Excl X (⟨v, .ro, d⟩ :: L) E
  | rt {a vs d L E} : H a = some (.lst vs) → Excl X L E → Excl X (⟨.ref a, .rt, d⟩ :: L) (a :: E)
  | io {v d F L E} : v = X.v → Rx K H v d F → Excl X L E → Excl X (⟨v, .io, d⟩ :: L) (F ++ E)
def Seen (E : List Addr) (c : Cel) : Prop := match c.k with
  | .un => True
  | .fr => ∃ F, Rx K (hide H E) c.v c.d F
  | .br => ∃ F, Rx K H c.v c.d F
  | .ro => Dp K (hide H E) c.v c.d
  | .rt => ∃ a vs ds F, c.v = .ref a ∧ c.d = .list ds ∧ H a = some (.lst vs) ∧ RxAll K (hide H E) vs ds F
  | .io => True
/-- g: the heap at the def's entry; b: a heap that only grows (where something is changed: nothing) -/
structure Sta (G : Gh) (L : List Cel) (E : List Addr) : Prop where
  ex : Excl K H G.f L E
  nd : E.Nodup
  nw : ∀ p ∈ E, G.g p = none
  sm : Same G.g (hide H E)
  gr : Same G.b H
  sn : ∀ c ∈ L, Seen K H E c
def St0 (G : Gh) (L : List Cel) : Prop := ∃ E, Sta K H G L E
end
section
variable {K : PySem.W.Frag} {H H' : Hp} {G : Gh} {L L' : List Cel} {E E' : List Addr} {c : Cel} {X : Frm}
theorem Excl.mem : ∀ {L : List Cel} {E : List Addr}, Excl K H X L E → ∀ p ∈ E, ∃ o, H p = some o ∧ ownO o = true
  | _, _, .nil q, p, hp => by obtain ⟨o, _, e⟩ := q p hp; exact ⟨o, e⟩
  | _, _, .un r s, p, hp => by
    rcases List.mem_append.mp hp with hp | hp
    · exact r.mem p hp
    · exact s.mem p hp
  | _, _, .fr s, p, hp => s.mem p hp
  | _, _, .br s, p, hp => s.mem p hp
  | _, _, .ro s, p, hp => s.mem p hp
  | _, _, .rt e s, p, hp => by
    rcases List.mem_cons.mp hp with rfl | hp
    · exact ⟨_, e, rfl⟩
    · exact s.mem p hp
  | _, _, .io _ r s, p, hp => by
    rcases List.mem_append.mp hp with hp | hp
    · exact r.mem p hp
    · exact s.mem p hp
theorem Excl.same (e : Same H H') : ∀ {L : List Cel} {E : List Addr}, Excl K H X L E → Excl K H' X L E
  | _, _, .nil q => .nil fun p hp => by obtain ⟨xs, a, b, w⟩ := q p hp; exact ⟨xs, a, e _ _ b, w⟩
  | _, _, .un r s => .un (r.same e) (s.same e)
  | _, _, .fr s => .fr (s.same e)
  | _, _, .br s => .br (s.same e)
  | _, _, .ro s => .ro (s.same e)
  | _, _, .rt h s => .rt (e _ _ h) (s.same e)
  | _, _, .io q r s => .io q (r.same e) (s.same e)
theorem Excl.upd0 {p : Addr} {u o : HO} (hp : H p = some u) (hu : ownO u = true) : ∀ {L : List Cel} {E : List Addr}, Excl K H X L E → p ∉ E → Excl K (upd H p o) X L E
  | _, _, .nil q, n => .nil fun b hb => by obtain ⟨xs, a, c, w⟩ := q b hb; exact ⟨xs, a, by rw [upd_ne (fun e => n (by rw [← e]; exact hb))]; exact c, w⟩
  | _, _, .un r s, n => .un (r.upd0 hp hu (fun z => n (List.mem_append_left _ z))) (s.upd0 hp hu (fun z => n (List.mem_append_right _ z)))
  | _, _, .fr s, n => .fr (s.upd0 hp hu n)
  | _, _, .br s, n => .br (s.upd0 hp hu n)
  | _, _, .ro s, n => .ro (s.upd0 hp hu n)
  | _, _, .rt h s, n => .rt (by rw [upd_ne (fun e => n (by rw [← e]; exact List.mem_cons_self))]; exact h) (s.upd0 hp hu (fun z => n (List.mem_cons_of_mem _ z)))
  | _, _, .io q r s, n => .io q (r.upd0 hp hu (fun z => n (List.mem_append_left _ z))) (s.upd0 hp hu (fun z => n (List.mem_append_right _ z)))
theorem Excl.upd {p : Addr} {zs : List V} {o : HO} (hp : H p = some (.lst zs)) {L : List Cel} {E : List Addr} (h : Excl K H X L E) (n : p ∉ E) : Excl K (upd H p o) X L E := h.upd0 hp rfl n
def NoIo (L : List Cel) : Prop := ∀ c ∈ L, c.k ≠ .io
theorem Excl.app : ∀ {L L' : List Cel} {E E' : List Addr}, Excl K H ⟨[], Hp0, X.v⟩ L E → Excl K H X L' E' → Excl K H X (L ++ L') (E ++ E')
  | _, _, _, _, .nil _, h => h
  | _, _, _, _, .un r s, h => by rw [List.append_assoc]; exact .un r (s.app h)
  | _, _, _, _, .fr s, h => .fr (s.app h)
  | _, _, _, _, .br s, h => .br (s.app h)
  | _, _, _, _, .ro s, h => .ro (s.app h)
  | _, _, _, _, .rt e s, h => .rt e (s.app h)
  | _, _, _, _, .io q r s, h => by rw [List.append_assoc]; exact .io q r (s.app h)
/-- cells in another order -/
theorem Excl.perm (h : L.Perm L') : ∀ {E : List Addr}, Excl K H X L E → ∃ E', Excl K H X L' E' ∧ E.Perm E' := by
  induction h with
  | nil => intro E h; exact ⟨E, h, .refl _⟩
  | cons x _ ih =>
    intro E h
    cases h with
    | un r s => obtain ⟨E', h', p⟩ := ih s; exact ⟨_, .un r h', p.append_left _⟩
    | fr s => obtain ⟨E', h', p⟩ := ih s; exact ⟨_, .fr h', p⟩
    | br s => obtain ⟨E', h', p⟩ := ih s; exact ⟨_, .br h', p⟩
    | ro s => obtain ⟨E', h', p⟩ := ih s; exact ⟨_, .ro h', p⟩
    | rt e s => obtain ⟨E', h', p⟩ := ih s; exact ⟨_, .rt e h', p.cons _⟩
    | io q r s => obtain ⟨E', h', p⟩ := ih s; exact ⟨_, .io q r h', p.append_left _⟩
  | swap x y l =>
    intro E h
    cases h with
    | un r s =>
      cases s with
      | un r' s' => exact ⟨_, .un r' (.un r s'), by rw [← List.append_assoc, ← List.append_assoc]; exact List.perm_append_comm.append_right _⟩
      | fr s' => exact ⟨_, .fr (.un r s'), .refl _⟩
      | br s' => exact ⟨_, .br (.un r s'), .refl _⟩
      | ro s' => exact ⟨_, .ro (.un r s'), .refl _⟩
      | rt e' s' => exact ⟨_, .rt e' (.un r s'), List.perm_middle⟩
      | io q r' s' => exact ⟨_, .io q r' (.un r s'), by rw [← List.append_assoc, ← List.append_assoc]; exact List.perm_append_comm.append_right _⟩
    | fr s =>
      cases s with
      | un r' s' => exact ⟨_, .un r' (.fr s'), .refl _⟩
      | fr s' => exact ⟨_, .fr (.fr s'), .refl _⟩
      | br s' => exact ⟨_, .br (.fr s'), .refl _⟩
      | ro s' => exact ⟨_, .ro (.fr s'), .refl _⟩
      | rt e' s' => exact ⟨_, .rt e' (.fr s'), .refl _⟩
      | io q r' s' => exact ⟨_, .io q r' (.fr s'), .refl _⟩
    | br s =>
      cases s with
      | un r' s' => exact ⟨_, .un r' (.br s'), .refl _⟩
      | fr s' => exact ⟨_, .fr (.br s'), .refl _⟩
      | br s' => exact ⟨_, .br (.br s'), .refl _⟩
      | ro s' => exact ⟨_, .ro (.br s'), .refl _⟩
      | rt e' s' => exact ⟨_, .rt e' (.br s'), .refl _⟩
      | io q r' s' => exact ⟨_, .io q r' (.br s'), .refl _⟩
    | ro s =>
      cases s with
      | un r' s' => exact ⟨_, .un r' (.ro s'), .refl _⟩
      | fr s' => exact ⟨_, .fr (.ro s'), .refl _⟩
      | br s' => exact ⟨_, .br (.ro s'), .refl _⟩
      | ro s' => exact ⟨_, .ro (.ro s'), .refl _⟩
      | rt e' s' => exact ⟨_, .rt e' (.ro s'), .refl _⟩
      | io q r' s' => exact ⟨_, .io q r' (.ro s'), .refl _⟩
    | rt e s =>
      cases s with
      | un r' s' => exact ⟨_, .un r' (.rt e s'), List.perm_middle.symm⟩
      | fr s' => exact ⟨_, .fr (.rt e s'), .refl _⟩
      | br s' => exact ⟨_, .br (.rt e s'), .refl _⟩
      | ro s' => exact ⟨_, .ro (.rt e s'), .refl _⟩
      | rt e' s' => exact ⟨_, .rt e' (.rt e s'), .swap _ _ _⟩
      | io q r' s' => exact ⟨_, .io q r' (.rt e s'), List.perm_middle.symm⟩
    | io q r s =>
      cases s with
      | un r' s' => exact ⟨_, .un r' (.io q r s'), by rw [← List.append_assoc, ← List.append_assoc]; exact List.perm_append_comm.append_right _⟩
      | fr s' => exact ⟨_, .fr (.io q r s'), .refl _⟩
      | br s' => exact ⟨_, .br (.io q r s'), .refl _⟩
      | ro s' => exact ⟨_, .ro (.io q r s'), .refl _⟩
      | rt e' s' => exact ⟨_, .rt e' (.io q r s'), List.perm_middle⟩
      | io q' r' s' => exact ⟨_, .io q' r' (.io q r s'), by rw [← List.append_assoc, ← List.append_assoc]; exact List.perm_append_comm.append_right _⟩
  | trans _ _ ih1 ih2 =>
    intro E h
    obtain ⟨E1, h1, p1⟩ := ih1 h
    obtain ⟨E2, h2, p2⟩ := ih2 h1
    exact ⟨E2, h2, p1.trans p2⟩
theorem Seen.mono (h : ∀ b, b ∈ E' → b ∈ E) (s : Seen K H E c) : Seen K H E' c := by
  obtain ⟨v, k, d⟩ := c
  cases k with
  | un => trivial
  | fr => obtain ⟨F, s⟩ := s; exact ⟨F, s.same (hide_mono h)⟩
  | br => exact s
  | ro => exact dp_same (hide_mono h) s
  | rt => obtain ⟨a, vs, ds, F, h1, h2, h3, h4⟩ := s; exact ⟨a, vs, ds, F, h1, h2, h3, h4.same (hide_mono h)⟩
  | io => trivial
theorem Seen.ext (e : Same H H') (s : Seen K H E c) : Seen K H' E c := by
  obtain ⟨v, k, d⟩ := c
  cases k with
  | un => trivial
  | fr => obtain ⟨F, s⟩ := s; exact ⟨F, s.same (hide_ext e)⟩
  | br => obtain ⟨F, s⟩ := s; exact ⟨F, s.same e⟩
  | ro => exact dp_same (hide_ext e) s
  | rt => obtain ⟨a, vs, ds, F, h1, h2, h3, h4⟩ := s; exact ⟨a, vs, ds, F, h1, h2, e _ _ h3, h4.same (hide_ext e)⟩
  | io => trivial
theorem Sta.mono {E' : List Addr} (s : Sta K H G L E) (ex : Excl K H G.f L' E') (hn : E'.Nodup) (he : ∀ b, b ∈ E' → b ∈ E) (hs : ∀ c ∈ L', c ∈ L ∨ c.k = .un) : Sta K H G L' E' :=
  ⟨ex, hn, fun p hp => s.nw p (he p hp), s.sm.trans (hide_mono he), s.gr, fun c hc => by
    rcases hs c hc with h | h
    · exact (s.sn c h).mono he
    · unfold Seen; rw [h]; trivial⟩
theorem St0.perm (s : St0 K H G L) (h : L.Perm L') : St0 K H G L' := by
  obtain ⟨E, s⟩ := s
  obtain ⟨E', ex, p⟩ := s.ex.perm h
  exact ⟨E', s.mono ex (p.nodup_iff.mp s.nd) (fun b hb => p.symm.subset hb) fun c hc => .inl (h.symm.subset hc)⟩
theorem St0.drop (s : St0 K H G (c :: L)) : St0 K H G L := by
  obtain ⟨E, s⟩ := s
  have sn : ∀ c' ∈ L, c' ∈ c :: L ∨ c'.k = .un := fun c' h => .inl (List.mem_cons_of_mem _ h)
  obtain ⟨ex, nd⟩ := And.intro s.ex s.nd
  cases ex with
  | un r e => exact ⟨_, s.mono e (List.nodup_append.mp nd).2.1 (fun b hb => List.mem_append_right _ hb) sn⟩
  | fr e => exact ⟨_, s.mono e nd (fun b hb => hb) sn⟩
  | br e => exact ⟨_, s.mono e nd (fun b hb => hb) sn⟩
  | ro e => exact ⟨_, s.mono e nd (fun b hb => hb) sn⟩
  | rt h e => exact ⟨_, s.mono e (List.nodup_cons.mp nd).2 (fun b hb => List.mem_cons_of_mem _ hb) sn⟩
  | io q r e => exact ⟨_, s.mono e (List.nodup_append.mp nd).2.1 (fun b hb => List.mem_append_right _ hb) sn⟩
/-- read: whatever it is -/
theorem St0.dp (s : St0 K H G (c :: L)) : Dp K H c.v c.d := by
  obtain ⟨E, s⟩ := s
  obtain ⟨v, k, d⟩ := c
  have h := s.sn _ List.mem_cons_self
  cases k with
  | un => cases s.ex with | un r e => exact r.dp
  | fr => obtain ⟨F, h⟩ := h; exact dp_same hide_same h.dp
  | br => obtain ⟨F, h⟩ := h; exact h.dp
  | ro => exact dp_same hide_same h
  | rt => obtain ⟨a, vs, ds, F, rfl, rfl, h3, h4⟩ := h; exact .lst (SqL.of h3) (h4.same hide_same).dp
  | io => cases s.ex with | io q r e => exact r.dp
theorem St0.rx (s : St0 K H G (c :: L)) (hk : c.k ≠ .ro) : ∃ F, Rx K H c.v c.d F := by
  obtain ⟨E, s⟩ := s
  obtain ⟨v, k, d⟩ := c
  have h := s.sn _ List.mem_cons_self
  cases k with
  | un => cases s.ex with | un r e => exact ⟨_, r⟩
  | fr => obtain ⟨F, h⟩ := h; exact ⟨F, h.same hide_same⟩
  | br => exact h
  | ro => exact absurd rfl hk
  | rt => obtain ⟨a, vs, ds, F, rfl, rfl, h3, h4⟩ := h; exact ⟨_, .lst h3 (h4.same hide_same)⟩
  | io => cases s.ex with | io q r e => exact ⟨_, r⟩
/-- own to shared -/
theorem St0.freeze {v : V} {k : Kd} {d : PyData} (s : St0 K H G (⟨v, k, d⟩ :: L)) (hk : k = .un ∨ k = .fr ∨ k = .rt) : St0 K H G (⟨v, .fr, d⟩ :: L) := by
  rcases hk with rfl | rfl | rfl
  · obtain ⟨E, s⟩ := s
    have nd := s.nd
    cases id s.ex with
    | @un _ _ F _ E' r e =>
      have hsub : ∀ b, b ∈ E' → b ∈ F ++ E' := fun b hb => List.mem_append_right _ hb
      refine ⟨E', .fr e, (List.nodup_append.mp nd).2.1, fun p hp => s.nw p (hsub p hp), s.sm.trans (hide_mono hsub), s.gr, fun c hc => ?_⟩
      rcases List.mem_cons.mp hc with rfl | hc
      · refine ⟨F, ?_⟩
        have hd := (List.nodup_append.mp nd).2.2
        exact rx_hide e.mem (fun p hp hq => hd p hp p hq rfl) r
      · exact (s.sn c (List.mem_cons_of_mem _ hc)).mono hsub
  · exact s
  · obtain ⟨E, s⟩ := s
    have nd := s.nd
    have z := s.sn _ List.mem_cons_self
    cases id s.ex with
    | @rt a vs _ _ E' ha e =>
      have hsub : ∀ b, b ∈ E' → b ∈ a :: E' := fun b hb => List.mem_cons_of_mem _ hb
      refine ⟨E', .fr e, (List.nodup_cons.mp nd).2, fun p hp => s.nw p (hsub p hp), s.sm.trans (hide_mono hsub), s.gr, fun c hc => ?_⟩
      rcases List.mem_cons.mp hc with rfl | hc
      · obtain ⟨a', vs', ds, F, h1, h2, h3, h4⟩ := z
        cases h1
        cases h2
        exact ⟨_, .lst (by rw [hide_of (List.nodup_cons.mp nd).1]; exact h3) (h4.same (hide_mono hsub))⟩
      · exact (s.sn c (List.mem_cons_of_mem _ hc)).mono hsub
end
end PL
namespace PL
open PySem PySem.Spec L2
abbrev St := L2.St

abbrev Sl := Kd × PyData
abbrev Rho := List (Option Sl)
def lv : St → Rho → List Cel
  | some v :: σ, some (k, d) :: ρ => ⟨v, k, d⟩ :: lv σ ρ
  | none :: σ, some _ :: ρ => lv σ ρ
  | _ :: σ, none :: ρ => lv σ ρ
  | [], _ => []
  | _ :: _, [] => []
/-- what may be kept under a name -/
def stK : Kd → Bool
  | .un => true
  | .fr => true
  | .br => true
  | .ro => true
  | .rt => true
  | .io => true
inductive EnvOk : St → Rho → Prop
  | e0 : EnvOk [] []
  | e1 {v k d σ ρ} : stK k = true → EnvOk σ ρ → EnvOk (some v :: σ) (some (k, d) :: ρ)
  | e2 {o σ ρ} : EnvOk σ ρ → EnvOk (o :: σ) (none :: ρ)
theorem lv_none {o : Option V} {σ : St} {ρ : Rho} : lv (o :: σ) (none :: ρ) = lv σ ρ := by cases o <;> rfl
theorem EnvOk.len {σ : St} {ρ : Rho} (h : EnvOk σ ρ) : σ.length = ρ.length := by
  induction h with
  | e0 => rfl
  | e1 _ _ ih => simp [ih]
  | e2 _ ih => simp [ih]
theorem EnvOk.slot {σ : St} {ρ : Rho} (h : EnvOk σ ρ) : ∀ {i : Nat} {k : Kd} {d : PyData}, ρ[i]? = some (some (k, d)) →
    ∃ v, σ[i]? = some (some v) ∧ (lv σ ρ).Perm (⟨v, k, d⟩ :: lv σ (ρ.set i none)) ∧ EnvOk σ (ρ.set i none) ∧
      ∀ k' d', stK k' = true → EnvOk σ (ρ.set i (some (k', d'))) ∧ (⟨v, k', d'⟩ :: lv σ (ρ.set i none)).Perm (lv σ (ρ.set i (some (k', d')))) := by
  induction h with
  | e0 => intro i k d e; simp at e
  | @e1 v k0 d0 σ ρ hs h ih =>
    intro i k d e
    cases i with
    | zero =>
      simp at e
      obtain ⟨rfl, rfl⟩ := e
      exact ⟨v, rfl, .refl _, .e2 h, fun k' d' hk => ⟨.e1 hk h, .refl _⟩⟩
    | succ i =>
      obtain ⟨v', e1, p, ok, f⟩ := ih (i := i) (k := k) (d := d) (by simpa using e)
      refine ⟨v', by simpa using e1, ?_, .e1 hs ok, fun k' d' hk => ⟨.e1 hs (f k' d' hk).1, ?_⟩⟩
      · exact (p.cons _).trans (.swap _ _ _)
      · exact (List.Perm.swap _ _ _).trans ((f k' d' hk).2.cons _)
  | @e2 o σ ρ h ih =>
    intro i k d e
    cases i with
    | zero => simp at e
    | succ i =>
      obtain ⟨v', e1, p, ok, f⟩ := ih (i := i) (k := k) (d := d) (by simpa using e)
      refine ⟨v', by simpa using e1, ?_, .e2 ok, fun k' d' hk => ⟨.e2 (f k' d' hk).1, ?_⟩⟩
      · rw [lv_none]; exact p.trans (by rw [List.set_cons_succ, lv_none])
      · rw [List.set_cons_succ, List.set_cons_succ, lv_none, lv_none]; exact (f k' d' hk).2
theorem EnvOk.put {σ : St} {ρ : Rho} (h : EnvOk σ ρ) : ∀ (i : Nat) (v : V) (k : Kd) (d : PyData), stK k = true → EnvOk (σ.set i (some v)) (ρ.set i (some (k, d))) ∧
    ∃ M, (⟨v, k, d⟩ :: lv σ ρ).Perm (M ++ lv (σ.set i (some v)) (ρ.set i (some (k, d)))) := by
  induction h with
  | e0 => intro i v k d hk; exact ⟨.e0, [⟨v, k, d⟩], .refl _⟩
  | @e1 v0 k0 d0 σ ρ hs h ih =>
    intro i v k d hk
    cases i with
    | zero => exact ⟨.e1 hk h, [⟨v0, k0, d0⟩], .swap _ _ _⟩
    | succ i =>
      obtain ⟨ok, M, p⟩ := ih i v k d hk
      refine ⟨.e1 hs ok, M, ?_⟩
      exact (List.Perm.swap _ _ _).trans ((p.cons _).trans List.perm_middle.symm)
  | @e2 o σ ρ h ih =>
    intro i v k d hk
    cases i with
    | zero => exact ⟨.e1 hk h, [], by rw [lv_none]; exact .refl _⟩
    | succ i =>
      obtain ⟨ok, M, p⟩ := ih i v k d hk
      refine ⟨.e2 ok, M, ?_⟩
      rw [List.set_cons_succ, List.set_cons_succ, lv_none, lv_none]
      exact p
section
variable {K : PySem.W.Frag} {H H' : Hp} {G : Gh} {L L' M : List Cel}
theorem St0.drops : ∀ {M : List Cel}, St0 K H G (M ++ L) → St0 K H G L
  | [], s => s
  | _ :: M, s => St0.drops (M := M) s.drop
theorem St0.put {σ : St} {ρ : Rho} {i : Nat} {v : V} {k : Kd} {d : PyData} (hk : stK k = true) (h : EnvOk σ ρ) (s : St0 K H G (⟨v, k, d⟩ :: (lv σ ρ ++ L))) : St0 K H G (lv (σ.set i (some v)) (ρ.set i (some (k, d))) ++ L) := by
  obtain ⟨_, M, p⟩ := h.put i v k d hk
  have s2 := s.perm (p.append_right L)
  rw [List.append_assoc] at s2
  exact s2.drops
theorem St0.sub (s : St0 K H G L) (h : L.Perm (M ++ L')) : St0 K H G L' := (s.perm h).drops
/-- a value without lists -/
theorem St0.scal {v : V} {d : PyData} (s : St0 K H G L) (r : Rx K H v d []) : St0 K H G (⟨v, .un, d⟩ :: L) := by
  obtain ⟨E, s⟩ := s
  refine ⟨[] ++ E, .un r s.ex, s.nd, s.nw, s.sm, s.gr, fun c hc => ?_⟩
  rcases List.mem_cons.mp hc with rfl | hc
  · trivial
  · exact s.sn c hc
theorem St0.flatUn {v : V} {k : Kd} {d : PyData} (s : St0 K H G (⟨v, k, d⟩ :: L)) (f : flat d = true) : St0 K H G (⟨v, .un, d⟩ :: L) :=
  s.drop.scal (dp_flat s.dp f)
/-- the heap grows -/
theorem St0.grow (s : St0 K H G L) (e : Same H H') : St0 K H' G L := by
  obtain ⟨E, s⟩ := s
  exact ⟨E, s.ex.same e, s.nd, s.nw, s.sm.trans (hide_ext e), s.gr.trans e, fun c hc => (s.sn c hc).ext e⟩
/-- .. and a value of its own has come -/
theorem St0.fresh {v : V} {d : PyData} {F : List Addr} (s : St0 K H G L) (e : Same H H') (r : Rx K H' v d F) (nd : F.Nodup) (nw : ∀ p ∈ F, H p = none) : St0 K H' G (⟨v, .un, d⟩ :: L) := by
  obtain ⟨E, s⟩ := s
  have hE := s.ex.mem
  have dis : ∀ p ∈ F, p ∉ E := fun p hp hq => by
    obtain ⟨_, z, _⟩ := hE p hq
    rw [nw p hp] at z; cases z
  have nG : ∀ p ∈ F, G.g p = none := fun p hp => (s.sm.trans hide_same).free (nw p hp)
  have hs : ∀ b o, hide H E b = some o → hide H' (F ++ E) b = some o := fun b o q => by
    have nE : b ∉ E := fun z => by rw [hide_in z] at q; cases q
    rw [hide_of nE] at q
    rw [hide_of]
    · exact e b o q
    · intro z
      rcases List.mem_append.mp z with z | z
      · rw [nw b z] at q; cases q
      · exact nE z
  refine ⟨F ++ E, .un r (s.ex.same e), List.nodup_append.mpr ⟨nd, s.nd, fun a ha b hb z => dis a ha (z ▸ hb)⟩, fun p hp => ?_, s.sm.trans hs, s.gr.trans e, fun c hc => ?_⟩
  · rcases List.mem_append.mp hp with hp | hp
    · exact nG p hp
    · exact s.nw p hp
  · rcases List.mem_cons.mp hc with rfl | hc
    · trivial
    · have z := s.sn c hc
      obtain ⟨v', k', d'⟩ := c
      cases k' with
      | un => trivial
      | fr => obtain ⟨F', z⟩ := z; exact ⟨F', z.same hs⟩
      | br => obtain ⟨F', z⟩ := z; exact ⟨F', z.same e⟩
      | ro => exact dp_same hs z
      | rt => obtain ⟨a, vs, ds, F', h1, h2, h3, h4⟩ := z; exact ⟨a, vs, ds, F', h1, h2, e _ _ h3, h4.same hs⟩
      | io => trivial
/-- how a value is read: an own one without lists stays own, another own one is borrowed -/
def kv (k : Kd) (d : PyData) : Kd := match k with
  | .un => if flat d then .un else .br
  | .io => if flat d then .un else .br
  | .rt => .br
  | k => k
theorem St0.look {v : V} {k : Kd} {d : PyData} (s : St0 K H G (⟨v, k, d⟩ :: L)) : St0 K H G (⟨v, kv k d, d⟩ :: ⟨v, k, d⟩ :: L) := by
  cases k with
  | un =>
    by_cases f : flat d = true
    · have : kv .un d = .un := by unfold kv; rw [if_pos f]
      rw [this]
      exact s.scal (dp_flat s.dp f)
    · have : kv .un d = .br := by unfold kv; rw [if_neg f]
      rw [this]
      have dp := s.rx (fun e => by cases e)
      obtain ⟨E, s⟩ := s
      refine ⟨E, .br s.ex, s.nd, s.nw, s.sm, s.gr, fun c hc => ?_⟩
      rcases List.mem_cons.mp hc with rfl | hc
      · exact dp
      · exact s.sn c hc
  | fr =>
    obtain ⟨E, s⟩ := s
    refine ⟨E, .fr s.ex, s.nd, s.nw, s.sm, s.gr, fun c hc => ?_⟩
    rcases List.mem_cons.mp hc with rfl | hc
    · exact s.sn (⟨v, .fr, d⟩ : Cel) List.mem_cons_self
    · exact s.sn c hc
  | br =>
    obtain ⟨E, s⟩ := s
    refine ⟨E, .br s.ex, s.nd, s.nw, s.sm, s.gr, fun c hc => ?_⟩
    rcases List.mem_cons.mp hc with rfl | hc
    · exact s.sn (⟨v, .br, d⟩ : Cel) List.mem_cons_self
    · exact s.sn c hc
  | ro =>
    obtain ⟨E, s⟩ := s
    refine ⟨E, .ro s.ex, s.nd, s.nw, s.sm, s.gr, fun c hc => ?_⟩
    rcases List.mem_cons.mp hc with rfl | hc
    · exact s.sn (⟨v, .ro, d⟩ : Cel) List.mem_cons_self
    · exact s.sn c hc
  | rt =>
    have dp := s.rx (fun e => by cases e)
    obtain ⟨E, s⟩ := s
    refine ⟨E, .br s.ex, s.nd, s.nw, s.sm, s.gr, fun c hc => ?_⟩
    rcases List.mem_cons.mp hc with rfl | hc
    · exact dp
    · exact s.sn c hc
  | io =>
    by_cases f : flat d = true
    · have : kv .io d = .un := by unfold kv; rw [if_pos f]
      rw [this]
      exact s.scal (dp_flat s.dp f)
    · have : kv .io d = .br := by unfold kv; rw [if_neg f]
      rw [this]
      have dp := s.rx (fun e => by cases e)
      obtain ⟨E, s⟩ := s
      refine ⟨E, .br s.ex, s.nd, s.nw, s.sm, s.gr, fun c hc => ?_⟩
      rcases List.mem_cons.mp hc with rfl | hc
      · exact dp
      · exact s.sn c hc
end

/-! ### the judgements -/
abbrev WE := Rho → (Rho → Kd → PyData → Prop) → Prop
abbrev WT := Rho → (Rho → Bool → Prop) → Prop
abbrev WA := Rho → (Rho → List Sl → Prop) → Prop
def LiftE (K : PySem.W.Frag) (t : TE) (w : WE) : Prop := ∀ (G : Gh) (H : Hp) (σ : St) (ρ : Rho) (L : List Cel) (Q : VK) (Qp : Rho → Kd → PyData → Prop), EnvOk σ ρ → St0 K H G (lv σ ρ ++ L) → w ρ Qp →
  (∀ v H' ρ' k d, EnvOk σ ρ' → St0 K H' G (⟨v, k, d⟩ :: (lv σ ρ' ++ L)) → Qp ρ' k d → Q v H') → t σ H Q
def LiftT (K : PySem.W.Frag) (t : TT) (w : WT) : Prop := ∀ (G : Gh) (H : Hp) (σ : St) (ρ : Rho) (L : List Cel) (Q : Bool → Hp → Prop) (Qp : Rho → Bool → Prop), EnvOk σ ρ → St0 K H G (lv σ ρ ++ L) → w ρ Qp →
  (∀ b H' ρ', EnvOk σ ρ' → St0 K H' G (lv σ ρ' ++ L) → Qp ρ' b → Q b H') → t σ H Q
inductive Cels : List V → List Sl → List Cel → Prop
  | nil : Cels [] [] []
  | cons {v vs k d ds cs} : Cels vs ds cs → Cels (v :: vs) ((k, d) :: ds) (⟨v, k, d⟩ :: cs)
def LiftA (K : PySem.W.Frag) (t : TA) (w : WA) : Prop := ∀ (G : Gh) (H : Hp) (σ : St) (ρ : Rho) (L : List Cel) (Q : List V → Hp → Prop) (Qp : Rho → List Sl → Prop), EnvOk σ ρ → St0 K H G (lv σ ρ ++ L) → w ρ Qp →
  (∀ vs H' ρ' ds cs, EnvOk σ ρ' → Cels vs ds cs → St0 K H' G (cs ++ (lv σ ρ' ++ L)) → Qp ρ' ds → Q vs H') → t σ H Q
def PEx (X : Cx) (e : Expr) (w : WE) : Prop := ∃ t, PE X e t ∧ LiftE X.K t w
def PTx (X : Cx) (e : Expr) (w : WT) : Prop := ∃ t, PT X e t ∧ LiftT X.K t w
def PWx (X : Cx) (e : Expr) (w : WT) : Prop := ∃ t, PW X e t ∧ LiftT X.K t w
def PAx (X : Cx) (es : List Expr) (w : WA) : Prop := ∃ t, PA X es t ∧ LiftA X.K t w

section
variable {X : Cx} {e a b : Expr} {es : List Expr} {pos : Pos} {wa wb : WE} {ta tb : TE}
/-! ### names, constants -/
def wVar (i : Nat) : WE := fun ρ Q => match ρ[i]? with
  | some (some (k, d)) => Q ρ (kv k d) d
  | _ => False
theorem lift_var {K : PySem.W.Frag} (i : Nat) : LiftE K (tVar i) (wVar i) := by
  intro G H σ ρ L Q Qp ok s h q
  unfold wVar at h
  split at h
  · rename_i k d e
    obtain ⟨v, e1, p, _, f⟩ := ok.slot e
    refine ⟨v, e1, q v H ρ _ d ok ?_ h⟩
    have s2 := (s.perm (p.append_right L)).look
    exact s2.perm ((p.symm.append_right L).cons _)
  · exact h.elim
/-- a name whose own value is handed on: it is forgotten here -/
def wMv (i : Nat) : WE := fun ρ Q => match ρ[i]? with
  | some (some (.un, d)) => if flat d = true then Q ρ .un d else Q (ρ.set i none) .un d
  | some (some (.fr, d)) => Q ρ .fr d
  | some (some (.rt, d)) => Q (ρ.set i none) .fr d
  | _ => False
theorem lift_mv {K : PySem.W.Frag} (i : Nat) : LiftE K (tVar i) (wMv i) := by
  intro G H σ ρ L Q Qp ok s h q
  unfold wMv at h
  split at h
  · rename_i d e
    obtain ⟨v, e1, p, ok2, f⟩ := ok.slot e
    have s2 := s.perm (p.append_right L)
    by_cases hf : flat d = true
    · rw [if_pos hf] at h
      refine ⟨v, e1, q v H ρ _ d ok ?_ h⟩
      have s3 := s2.look
      unfold kv at s3
      simp only [hf, if_true] at s3
      exact s3.perm ((p.symm.append_right L).cons _)
    · rw [if_neg hf] at h
      exact ⟨v, e1, q v H _ _ d ok2 s2 h⟩
  · rename_i d e
    obtain ⟨v, e1, p, ok2, f⟩ := ok.slot e
    have s2 := (s.perm (p.append_right L)).look
    exact ⟨v, e1, q v H ρ _ d ok (s2.perm ((p.symm.append_right L).cons _)) h⟩
  · rename_i d e
    obtain ⟨v, e1, p, ok2, f⟩ := ok.slot e
    have s2 := (s.perm (p.append_right L)).freeze (.inr (.inr rfl))
    exact ⟨v, e1, q v H _ _ d ok2 s2 h⟩
  · exact h.elim
/-- a name whose own value is shared from now on -/
def wFz (i : Nat) : WE := fun ρ Q => match ρ[i]? with
  | some (some (.un, d)) => if flat d = true then Q ρ .un d else Q (ρ.set i (some (.fr, d))) .fr d
  | some (some (.fr, d)) => Q ρ .fr d
  | some (some (.rt, d)) => Q (ρ.set i (some (.fr, d))) .fr d
  | _ => False
theorem lift_fz {K : PySem.W.Frag} (i : Nat) : LiftE K (tVar i) (wFz i) := by
  intro G H σ ρ L Q Qp ok s h q
  unfold wFz at h
  split at h
  · rename_i d e
    obtain ⟨v, e1, p, ok2, f⟩ := ok.slot e
    have s2 := s.perm (p.append_right L)
    by_cases hf : flat d = true
    · rw [if_pos hf] at h
      refine ⟨v, e1, q v H ρ _ d ok ?_ h⟩
      have s3 := s2.look
      unfold kv at s3
      simp only [hf, if_true] at s3
      exact s3.perm ((p.symm.append_right L).cons _)
    · rw [if_neg hf] at h
      have s3 := (s2.freeze (.inl rfl)).look
      obtain ⟨ok3, p3⟩ := f .fr d rfl
      exact ⟨v, e1, q v H _ _ d ok3 (s3.perm ((p3.append_right L).cons _)) h⟩
  · rename_i d e
    obtain ⟨v, e1, p, ok2, f⟩ := ok.slot e
    have s2 := (s.perm (p.append_right L)).look
    exact ⟨v, e1, q v H ρ _ d ok (s2.perm ((p.symm.append_right L).cons _)) h⟩
  · rename_i d e
    obtain ⟨v, e1, p, ok2, f⟩ := ok.slot e
    have s3 := ((s.perm (p.append_right L)).freeze (.inr (.inr rfl))).look
    obtain ⟨ok3, p3⟩ := f .fr d rfl
    exact ⟨v, e1, q v H _ _ d ok3 (s3.perm ((p3.append_right L).cons _)) h⟩
  · exact h.elim
def wC (d : PyData) : WE := fun ρ Q => Q ρ .un d
theorem lift_c {K : PySem.W.Frag} {v : V} {d : PyData} (r : ∀ H, Rx K H v d []) : LiftE K (tC v) (wC d) := fun G H σ ρ L Q Qp ok s h q => q v H ρ .un d ok (s.scal (r H)) h
theorem ex_int {i j} : PEx X (.Constant (.int i) j pos) (wC (.int i)) := ⟨_, pe_int, lift_c fun _ => .int i⟩
theorem ex_bl {i j} : PEx X (.Constant (.bool i) j pos) (wC (.bool i)) := ⟨_, pe_bl, lift_c fun _ => .bl i⟩
theorem ex_non {j} : PEx X (.Constant .none j pos) (wC .none) := ⟨_, pe_non, lift_c fun _ => .non⟩
theorem ex_str {i j} : PEx X (.Constant (.str i) j pos) (wC (.str i)) := ⟨_, pe_str, lift_c fun _ => .str i⟩

/-! ### two-place operations -/
abbrev WO2 := Kd → PyData → Kd → PyData → (Kd → PyData → Prop) → Prop
def LiftO (K : PySem.W.Frag) (r : R2) (wo : WO2) : Prop := ∀ (G : Gh) (H : Hp) (L : List Cel) (k1 k2 : Kd) (x y : PyData) (v u : V) (Q : VK) (Qp : Kd → PyData → Prop), St0 K H G (⟨u, k2, y⟩ :: ⟨v, k1, x⟩ :: L) → wo k1 x k2 y Qp →
  (∀ z H' k d, St0 K H' G (⟨z, k, d⟩ :: L) → Qp k d → Q z H') → r v u H Q
def w2 (wo : WO2) (wa wb : WE) : WE := fun ρ Q => wa ρ fun ρ1 k1 x => wb ρ1 fun ρ2 k2 y => wo k1 x k2 y fun k d => Q ρ2 k d
theorem lift_2 {K : PySem.W.Frag} {r : R2} {wo : WO2} (ho : LiftO K r wo) (ha : LiftE K ta wa) (hb : LiftE K tb wb) : LiftE K (tOp r ta tb) (w2 wo wa wb) := by
  intro G H σ ρ L Q Qp ok s h q
  refine ha G H σ ρ L _ _ ok s h fun v H1 ρ1 k1 x ok1 s1 h1 => ?_
  refine hb G H1 σ ρ1 (⟨v, k1, x⟩ :: L) _ _ ok1 (s1.perm List.perm_middle.symm) h1 fun u H2 ρ2 k2 y ok2 s2 h2 => ?_
  refine ho G H2 (lv σ ρ2 ++ L) k1 k2 x y v u Q _ (s2.perm (List.perm_middle.cons _)) h2 fun z H3 k d s3 h3 => ?_
  exact q z H3 ρ2 k d ok2 s3 h3
/-- operations on data alone with a result without lists -/
theorem lift_flat {K : PySem.W.Frag} {r : R2} {wo : PyData → PyData → (PyData → Prop) → Prop}
    (h : ∀ (H : Hp) (x y : PyData) (v u : V) (Q : VK) (Qp : PyData → Prop), Dp K H v x → Dp K H u y → wo x y Qp → (∀ z d, Rx K H z d [] → Qp d → Q z H) → r v u H Q) : LiftO K r (fun _ x _ y Q => wo x y (Q .un)) := by
  intro G H L k1 k2 x y v u Q Qp s hw q
  exact h H x y v u Q (Qp .un) s.drop.dp s.dp hw fun z d rz hq => q z H .un d (s.drop.drop.scal rz) hq
/-- two ints -/
def oI (C : Int → Int → Prop) (g : Int → Int → PyData) : PyData → PyData → (PyData → Prop) → Prop := fun x y Q => match x, y with
  | .int i, .int j => C i j ∧ Q (g i j)
  | _, _ => False
theorem lift_rI {K : PySem.W.Frag} {C : Int → Int → Prop} {g : Int → Int → V} {g' : Int → Int → PyData} (hg : ∀ i j H, Rx K H (g i j) (g' i j) []) : LiftO K (rI C g) (fun _ x _ y Q => oI C g' x y (Q .un)) := by
  refine lift_flat fun H x y v u Q Qp hx hy hw q => ?_
  unfold oI at hw
  split at hw
  · rename_i i j
    cases hx
    cases hy
    exact ⟨i, j, rfl, rfl, hw.1, q _ _ (hg i j H) hw.2⟩
  · exact hw.elim
theorem lift_rI0 {K : PySem.W.Frag} {g : Int → Int → V} {g' : Int → Int → PyData} (hg : ∀ i j H, Rx K H (g i j) (g' i j) []) : LiftO K (rI0 g) (fun _ x _ y Q => oI (fun _ _ => True) g' x y (Q .un)) := by
  refine lift_flat fun H x y v u Q Qp hx hy hw q => ?_
  unfold oI at hw
  split at hw
  · rename_i i j
    cases hx
    cases hy
    exact ⟨i, j, rfl, rfl, q _ _ (hg i j H) hw.2⟩
  · exact hw.elim
def wSub : WO2 := fun _ x _ y Q => oI (fun _ _ => True) (fun i j => .int (i - j)) x y (Q .un)
def wMod : WO2 := fun _ x _ y Q => oI (fun _ j => 0 < j) (fun i j => .int (i % j)) x y (Q .un)
def wDiv : WO2 := fun _ x _ y Q => oI CDivW (fun i j => .int (i / j)) x y (Q .un)
def wPow : WO2 := fun _ x _ y Q => oI CPow (fun i j => .int (i ^ j.toNat)) x y (Q .un)
def wMul : WO2 := fun _ x _ y Q => oI (fun i j => CMul i j ∨ CMulW i j) (fun i j => .int (i * j)) x y (Q .un)
theorem op_mulX : OpR X (binaryOp .Mult) (rI (fun i j => CMul i j ∨ CMulW i j) fun i j => .int (i * j)) := opI fun _ _ _ _ _ _ _ hc q => PyProof.Rows.mul_int q (hc.elim CMul.ok CMulW.ok)
theorem ex_sub (ha : PEx X a wa) (hb : PEx X b wb) : PEx X (.BinOp a .Sub b pos) (w2 wSub wa wb) := by
  obtain ⟨ta, pa, la⟩ := ha; obtain ⟨tb, pb, lb⟩ := hb
  exact ⟨_, pe_op op_sub pa pb, lift_2 (lift_rI0 fun i j H => .int _) la lb⟩
theorem ex_mod (ha : PEx X a wa) (hb : PEx X b wb) : PEx X (.BinOp a .Mod b pos) (w2 wMod wa wb) := by
  obtain ⟨ta, pa, la⟩ := ha; obtain ⟨tb, pb, lb⟩ := hb
  exact ⟨_, pe_op op_mod pa pb, lift_2 (lift_rI fun i j H => .int _) la lb⟩
theorem ex_div (ha : PEx X a wa) (hb : PEx X b wb) : PEx X (.BinOp a .FloorDiv b pos) (w2 wDiv wa wb) := by
  obtain ⟨ta, pa, la⟩ := ha; obtain ⟨tb, pb, lb⟩ := hb
  exact ⟨_, pe_op op_fdivW pa pb, lift_2 (lift_rI fun i j H => .int _) la lb⟩
theorem ex_pow (ha : PEx X a wa) (hb : PEx X b wb) : PEx X (.BinOp a .Pow b pos) (w2 wPow wa wb) := by
  obtain ⟨ta, pa, la⟩ := ha; obtain ⟨tb, pb, lb⟩ := hb
  exact ⟨_, pe_op op_pow pa pb, lift_2 (lift_rI fun i j H => .int _) la lb⟩
theorem ex_mul (ha : PEx X a wa) (hb : PEx X b wb) : PEx X (.BinOp a .Mult b pos) (w2 wMul wa wb) := by
  obtain ⟨ta, pa, la⟩ := ha; obtain ⟨tb, pb, lb⟩ := hb
  exact ⟨_, pe_op op_mulX pa pb, lift_2 (lift_rI fun i j H => .int _) la lb⟩
end
end PL
namespace PL
open PySem PySem.Spec L2

section
variable {K : PySem.W.Frag} {H H' : Hp} {G : Gh} {L : List Cel}
/-! ### several values into one -/
def allUn (ds : List Sl) : Bool := ds.all fun s => (match s.1 with | .un => true | _ => false) || flat s.2
def allFr (ds : List Sl) : Bool := ds.all fun s => (match s.1 with | .un => true | .fr => true | _ => false) || flat s.2
theorem flat_ne {v : V} {k : Kd} {d : PyData} (s : St0 K H G (⟨v, k, d⟩ :: L)) (f : flat d = true) : St0 K H G (⟨v, .un, d⟩ :: L) := s.flatUn f
theorem gatherUn : ∀ {vs : List V} {ds : List Sl} {cs : List Cel}, Cels vs ds cs → ∀ {L : List Cel}, St0 K H G (cs ++ L) → allUn ds = true →
    ∃ F E, RxAll K H vs (ds.map (·.2)) F ∧ Excl K H G.f L E ∧ (F ++ E).Nodup ∧ (∀ p ∈ F ++ E, G.g p = none) ∧ Same G.g (hide H (F ++ E)) ∧ Same G.b H ∧ ∀ c ∈ L, Seen K H (F ++ E) c := by
  intro vs ds cs h
  induction h with
  | nil =>
    intro L s _
    obtain ⟨E, s⟩ := s
    exact ⟨[], E, .nil, s.ex, s.nd, s.nw, s.sm, s.gr, s.sn⟩
  | @cons v vs k d ds cs h ih =>
    intro L s a
    unfold allUn at a
    rw [List.all_cons, Bool.and_eq_true] at a
    have s1 : St0 K H G (⟨v, .un, d⟩ :: (cs ++ L)) := by
      rcases Bool.or_eq_true_iff.mp a.1 with z | z
      · cases k with
        | un => exact s
        | fr => cases z
        | br => cases z
        | ro => cases z
        | rt => cases z
        | io => cases z
      · exact s.flatUn z
    obtain ⟨F, E, r, ex, nd, nw, sm, gr, sn⟩ := ih (L := ⟨v, .un, d⟩ :: L) (s1.perm List.perm_middle.symm) a.2
    cases ex with
    | @un _ _ F1 _ E1 r1 e1 =>
      have pm : (F ++ (F1 ++ E1)).Perm ((F1 ++ F) ++ E1) := by
        rw [← List.append_assoc]
        exact List.perm_append_comm.append_right _
      refine ⟨F1 ++ F, E1, .cons r1 r, e1, pm.nodup_iff.mp nd, fun p hp => nw p (pm.symm.subset hp), sm.trans (hide_mono fun b hb => pm.symm.subset hb), gr, fun c hc => (sn c (List.mem_cons_of_mem _ hc)).mono fun b hb => pm.symm.subset hb⟩
theorem gatherFr : ∀ {vs : List V} {ds : List Sl} {cs : List Cel}, Cels vs ds cs → ∀ {L : List Cel}, St0 K H G (cs ++ L) → allFr ds = true →
    ∃ F E, RxAll K (hide H E) vs (ds.map (·.2)) F ∧ Sta K H G L E := by
  intro vs ds cs h
  induction h with
  | nil =>
    intro L s _
    obtain ⟨E, s⟩ := s
    exact ⟨[], E, .nil, s⟩
  | @cons v vs k d ds cs h ih =>
    intro L s a
    unfold allFr at a
    rw [List.all_cons, Bool.and_eq_true] at a
    have s1 : St0 K H G (⟨v, .fr, d⟩ :: (cs ++ L)) := by
      rcases Bool.or_eq_true_iff.mp a.1 with z | z
      · cases k with
        | un => exact s.freeze (.inl rfl)
        | fr => exact s
        | br => cases z
        | ro => cases z
        | rt => cases z
        | io => cases z
      · exact (s.flatUn z).freeze (.inl rfl)
    obtain ⟨F, E, r, st⟩ := ih (L := ⟨v, .fr, d⟩ :: L) (s1.perm List.perm_middle.symm) a.2
    obtain ⟨F1, r1⟩ := st.sn _ List.mem_cons_self
    have ex := st.ex
    cases ex with
    | fr e1 => exact ⟨F1 ++ F, E, .cons r1 r, e1, st.nd, st.nw, st.sm, st.gr, fun c hc => st.sn c (List.mem_cons_of_mem _ hc)⟩
/-- the kind of a new thing made of such parts -/
def wDisp (ds : List Sl) (Q : Kd → Prop) : Prop := if allUn ds = true then Q .un else allFr ds = true ∧ Q .fr
theorem hide_updN {E : List Addr} {p : Addr} {o : HO} (h : p ∉ E) : Same (hide H E) (hide (upd H p o) E) ∨ True := .inr trivial
theorem mkLst {vs : List V} {ds : List Sl} {cs : List Cel} (h : Cels vs ds cs) (s : St0 K H G (cs ++ L)) {Q : Kd → Prop} (w : wDisp ds Q) {p : Addr} (hp : H p = none) :
    ∃ k, Q k ∧ St0 K (upd H p (.lst vs)) G (⟨.ref p, k, .list (ds.map (·.2))⟩ :: L) := by
  unfold wDisp at w
  have sm' : Same H (upd H p (.lst vs)) := same_upd hp
  split at w
  · rename_i a
    obtain ⟨F, E, r, ex, nd, nw, sm, gr, sn⟩ := gatherUn h s a
    have pF : p ∉ F ++ E := fun z => by
      obtain ⟨_, e, _⟩ : ∃ o, H p = some o ∧ ownO o = true := by
        rcases List.mem_append.mp z with z | z
        · exact r.mem p z
        · exact ex.mem p z
      rw [hp] at e; cases e
    have pG : G.g p = none := (sm.trans hide_same).free hp
    have hh : Same (hide H (F ++ E)) (hide (upd H p (.lst vs)) (p :: F ++ E)) := fun b o e => by
      have nb : b ≠ p := fun z => by
        rw [z, hide_of pF, hp] at e; cases e
      have nE : b ∉ F ++ E := fun z => by rw [hide_in z] at e; cases e
      rw [hide_of nE] at e
      rw [hide_of (by simp only [List.cons_append, List.mem_cons, not_or]; exact ⟨nb, nE⟩), upd_ne nb]
      exact e
    refine ⟨.un, w, (p :: F) ++ E, .un (.lst upd_same (r.same sm')) (ex.same sm'), ?_, ?_, sm.trans hh, gr.trans sm', fun c hc => ?_⟩
    · rw [List.cons_append]; exact List.nodup_cons.mpr ⟨pF, nd⟩
    · intro q hq
      rcases List.mem_cons.mp (by rw [← List.cons_append]; exact hq) with rfl | hq
      · exact pG
      · exact nw q hq
    · rcases List.mem_cons.mp hc with rfl | hc
      · trivial
      · have z := sn c hc
        obtain ⟨v', k', d'⟩ := c
        cases k' with
        | un => trivial
        | fr => obtain ⟨F', z⟩ := z; exact ⟨F', z.same hh⟩
        | br => obtain ⟨F', z⟩ := z; exact ⟨F', z.same sm'⟩
        | ro => exact dp_same hh z
        | rt => obtain ⟨a', vs', ds', F', h1, h2, h3, h4⟩ := z; exact ⟨a', vs', ds', F', h1, h2, sm' _ _ h3, h4.same hh⟩
        | io => trivial
  · obtain ⟨a, w⟩ := w
    obtain ⟨F, E, r, st⟩ := gatherFr h s a
    have pE : p ∉ E := fun z => by
      obtain ⟨_, e, _⟩ := st.ex.mem p z
      rw [hp] at e; cases e
    refine ⟨.fr, w, E, .fr (st.ex.same sm'), st.nd, st.nw, st.sm.trans (hide_ext sm'), st.gr.trans sm', fun c hc => ?_⟩
    rcases List.mem_cons.mp hc with rfl | hc
    · exact ⟨_, .lst (by rw [hide_of pE]; exact upd_same) (r.same (hide_ext sm'))⟩
    · exact (st.sn c hc).ext sm'
theorem mkTup {vs : List V} {ds : List Sl} {cs : List Cel} (h : Cels vs ds cs) (s : St0 K H G (cs ++ L)) {Q : Kd → Prop} (w : wDisp ds Q) {p : Addr} (hp : H p = none) :
    ∃ k, Q k ∧ St0 K (upd H p (.tup vs)) G (⟨.ref p, k, .tuple (ds.map (·.2))⟩ :: L) := by
  unfold wDisp at w
  have sm' : Same H (upd H p (.tup vs)) := same_upd hp
  split at w
  · rename_i a
    obtain ⟨F, E, r, ex, nd, nw, sm, gr, sn⟩ := gatherUn h s a
    refine ⟨.un, w, F ++ E, .un (.tup (SqT.of upd_same) (r.same sm')) (ex.same sm'), nd, nw, sm.trans (hide_ext sm'), gr.trans sm', fun c hc => ?_⟩
    rcases List.mem_cons.mp hc with rfl | hc
    · trivial
    · exact (sn c hc).ext sm'
  · obtain ⟨a, w⟩ := w
    obtain ⟨F, E, r, st⟩ := gatherFr h s a
    have pE : p ∉ E := fun z => by
      obtain ⟨_, e, _⟩ := st.ex.mem p z
      rw [hp] at e; cases e
    refine ⟨.fr, w, E, .fr (st.ex.same sm'), st.nd, st.nw, st.sm.trans (hide_ext sm'), st.gr.trans sm', fun c hc => ?_⟩
    rcases List.mem_cons.mp hc with rfl | hc
    · exact ⟨_, .tup (SqT.of (by rw [hide_of pE]; exact upd_same)) (r.same (hide_ext sm'))⟩
    · exact (st.sn c hc).ext sm'
theorem Cels.len {vs : List V} {ds : List Sl} {cs : List Cel} (h : Cels vs ds cs) : vs.length = ds.length := by
  induction h with
  | nil => rfl
  | cons _ ih => simp [ih]
end

section
variable {X : Cx} {e a b c : Expr} {es : List Expr} {pos : Pos} {wa wb wc : WE} {wt wu : WT} {was : WA} {ta tb tc : TE}
/-! ### lists of arguments -/
def wNil : WA := fun ρ Q => Q ρ []
def wCons (wa : WE) (wr : WA) : WA := fun ρ Q => wa ρ fun ρ1 k d => wr ρ1 fun ρ2 ds => Q ρ2 ((k, d) :: ds)
theorem ax_nil : PAx X [] wNil := ⟨_, pa_nil, fun G H σ ρ L Q Qp ok s h q => q [] H ρ [] [] ok .nil s h⟩
theorem ax_cons (ha : PEx X a wa) (hr : PAx X es was) (hs : starEach (a :: es) X.env = (false, eval a X.env) :: starEach es X.env) : PAx X (a :: es) (wCons wa was) := by
  obtain ⟨ta, pa, la⟩ := ha; obtain ⟨tr, pr, lr⟩ := hr
  refine ⟨_, pa_cons pa pr hs, ?_⟩
  intro G H σ ρ L Q Qp ok s h q
  refine la G H σ ρ L _ _ ok s h fun v H1 ρ1 k x ok1 s1 h1 => ?_
  refine lr G H1 σ ρ1 (⟨v, k, x⟩ :: L) _ _ ok1 (s1.perm List.perm_middle.symm) h1 fun vs H2 ρ2 ds cs ok2 hc s2 h2 => ?_
  refine q (v :: vs) H2 ρ2 _ (⟨v, k, x⟩ :: cs) ok2 (.cons hc) ?_ h2
  refine s2.perm ?_
  refine (List.Perm.append_left cs List.perm_middle).trans ?_
  exact List.perm_middle
def wTup (was : WA) : WE := fun ρ Q => was ρ fun ρ1 ds => ds.length ≤ sizeLine ∧ wDisp ds fun k => Q ρ1 k (.tuple (ds.map (·.2)))
def wLst (was : WA) : WE := fun ρ Q => was ρ fun ρ1 ds => ds.length ≤ sizeLine ∧ wDisp ds fun k => Q ρ1 k (.list (ds.map (·.2)))
theorem ex_tup {x1} (h : PAx X es was) : PEx X (.Tuple es x1 pos) (wTup was) := by
  obtain ⟨t, p, l⟩ := h
  refine ⟨_, pe_tup p, ?_⟩
  intro G H σ ρ L Q Qp ok s h q
  refine l G H σ ρ L _ _ ok s h fun vs H1 ρ1 ds cs ok1 hc s1 h1 => ?_
  refine ⟨by rw [hc.len]; exact h1.1, fun p hp => ?_⟩
  obtain ⟨k, qk, s2⟩ := mkTup hc s1 h1.2 hp
  exact q _ _ _ k _ ok1 s2 qk
theorem ex_lst (h : PAx X es was) : PEx X (.List es pos) (wLst was) := by
  obtain ⟨t, p, l⟩ := h
  refine ⟨_, pe_lst p, ?_⟩
  intro G H σ ρ L Q Qp ok s h q
  refine l G H σ ρ L _ _ ok s h fun vs H1 ρ1 ds cs ok1 hc s1 h1 => ?_
  refine ⟨by rw [hc.len]; exact h1.1, fun p hp => ?_⟩
  obtain ⟨k, qk, s2⟩ := mkLst hc s1 h1.2 hp
  exact q _ _ _ k _ ok1 s2 qk

/-! ### + -/
theorem LiftO.or {K : PySem.W.Frag} {r r' : R2} {wo wo' : WO2} (h : LiftO K r wo) (h' : LiftO K r' wo') : LiftO K (fun x y H Q => r x y H Q ∨ r' x y H Q) (fun k1 x k2 y Q => wo k1 x k2 y Q ∨ wo' k1 x k2 y Q) := by
  intro G H L k1 k2 x y v u Q Qp s hw q
  rcases hw with hw | hw
  · exact .inl (h G H L k1 k2 x y v u Q Qp s hw q)
  · exact .inr (h' G H L k1 k2 x y v u Q Qp s hw q)
theorem LiftO.imp {K : PySem.W.Frag} {r : R2} {wo wo' : WO2} (h : LiftO K r wo) (i : ∀ k1 x k2 y Q, wo' k1 x k2 y Q → wo k1 x k2 y Q) : LiftO K r wo' := fun G H L k1 k2 x y v u Q Qp s hw q => h G H L k1 k2 x y v u Q Qp s (i _ _ _ _ _ hw) q
theorem rxAll_app {K : PySem.W.Frag} {H : Hp} : ∀ {vs us : List V} {ds es : List PyData} {F F' : List Addr}, RxAll K H vs ds F → RxAll K H us es F' → RxAll K H (vs ++ us) (ds ++ es) (F ++ F')
  | _, _, _, _, _, _, .nil, h => h
  | _, _, _, _, _, _, .cons r s, h => by rw [List.append_assoc]; exact .cons r (rxAll_app s h)
theorem flats_app : ∀ {ds es : List PyData}, flats (ds ++ es) = (flats ds && flats es)
  | [], es => by simp [flats]
  | d :: ds, es => by simp [flats, flats_app (ds := ds), Bool.and_assoc]
/-- two lists, one behind another: items without lists, or shared ones -/
def unB (k : Kd) : Bool := match k with
  | .un => true
  | .fr => false
  | .br => false
  | .ro => false
  | .rt => false
  | .io => false
def wCat : WO2 := fun k1 x k2 y Q => match x, y with
  | .list xs, .list ys => xs.length + ys.length ≤ sizeLine ∧ k1 ≠ .ro ∧ k2 ≠ .ro ∧ (if (flats xs && flats ys) = true then Q .un (.list (xs ++ ys)) else if (unB k1 && unB k2) = true then Q .un (.list (xs ++ ys)) else k1 ≠ .br ∧ k2 ≠ .br ∧ k1 ≠ .io ∧ k2 ≠ .io ∧ Q .fr (.list (xs ++ ys)))
  | _, _ => False
theorem rxAll_len {K : PySem.W.Frag} {H : Hp} : ∀ {vs : List V} {ds : List PyData} {F : List Addr}, RxAll K H vs ds F → vs.length = ds.length
  | _, _, _, .nil => rfl
  | _, _, _, .cons _ s => by simp [rxAll_len s]
theorem dpAll_len {K : PySem.W.Frag} {H : Hp} : ∀ {vs : List V} {ds : List PyData}, DpAll K H vs ds → vs.length = ds.length
  | _, _, .nil => rfl
  | _, _, .cons _ s => by simp [dpAll_len s]
theorem rxAll_flat {K : PySem.W.Frag} {H : Hp} {vs : List V} {ds : List PyData} {F : List Addr} (r : RxAll K H vs ds F) (f : flats ds = true) : RxAll K H vs ds [] := dpAll_flat r.dp f
theorem St0.frz2 {K : PySem.W.Frag} {H : Hp} {G : Gh} {L : List Cel} {v : V} {k : Kd} {d : PyData} (s : St0 K H G (⟨v, k, d⟩ :: L)) (h1 : k ≠ .br) (h2 : k ≠ .ro) (h3 : k ≠ .io) : St0 K H G (⟨v, .fr, d⟩ :: L) := by
  cases k with
  | un => exact s.freeze (.inl rfl)
  | fr => exact s
  | br => exact absurd rfl h1
  | ro => exact absurd rfl h2
  | rt => exact s.freeze (.inr (.inr rfl))
  | io => exact absurd rfl h3
/-- a new shared list -/
theorem St0.newFr {K : PySem.W.Frag} {H : Hp} {G : Gh} {L : List Cel} {E : List Addr} {vs : List V} {ds : List PyData} {F : List Addr} {p : Addr} (st : Sta K H G L E) (r : RxAll K (hide H E) vs ds F) (hp : H p = none) : St0 K (upd H p (.lst vs)) G (⟨.ref p, .fr, .list ds⟩ :: L) := by
  have sm' : Same H (upd H p (.lst vs)) := same_upd hp
  have pE : p ∉ E := fun z => by
    obtain ⟨_, e, _⟩ := st.ex.mem p z
    rw [hp] at e; cases e
  refine ⟨E, .fr (st.ex.same sm'), st.nd, st.nw, st.sm.trans (hide_ext sm'), st.gr.trans sm', fun c hc => ?_⟩
  rcases List.mem_cons.mp hc with rfl | hc
  · exact ⟨_, .lst (by rw [hide_of pE]; exact upd_same) (r.same (hide_ext sm'))⟩
  · exact (st.sn c hc).ext sm'
theorem St0.newUn {K : PySem.W.Frag} {H : Hp} {G : Gh} {L : List Cel} {vs : List V} {ds : List PyData} {p : Addr} (s : St0 K H G L) (r : RxAll K H vs ds []) (hp : H p = none) : St0 K (upd H p (.lst vs)) G (⟨.ref p, .un, .list ds⟩ :: L) :=
  s.fresh (F := [p]) (same_upd hp) (.lst upd_same (r.same (same_upd hp))) (by simp) (fun q hq => by rw [List.mem_singleton.mp hq]; exact hp)
theorem excl_split {K : PySem.W.Frag} {H : Hp} {X : Frm} : ∀ {M L : List Cel} {E : List Addr}, Excl K H X (M ++ L) E → ∃ F E0, Excl K H ⟨[], Hp0, X.v⟩ M F ∧ Excl K H X L E0 ∧ E = F ++ E0
  | [], L, E, h => ⟨[], E, .nil (fun p hp => (nomatch hp)), h, rfl⟩
  | c :: M, L, E, h => by
    cases h with
    | un r h => obtain ⟨F, E0, a, b, e⟩ := excl_split h; subst e; exact ⟨_, _, .un r a, b, (List.append_assoc _ _ _).symm⟩
    | fr h => obtain ⟨F, E0, a, b, e⟩ := excl_split h; exact ⟨_, _, .fr a, b, e⟩
    | br h => obtain ⟨F, E0, a, b, e⟩ := excl_split h; exact ⟨_, _, .br a, b, e⟩
    | ro h => obtain ⟨F, E0, a, b, e⟩ := excl_split h; exact ⟨_, _, .ro a, b, e⟩
    | rt q h => obtain ⟨F, E0, a, b, e⟩ := excl_split h; subst e; exact ⟨_, _, .rt q a, b, rfl⟩
    | io q r h => obtain ⟨F, E0, a, b, e⟩ := excl_split h; subst e; exact ⟨_, _, .io q r a, b, (List.append_assoc _ _ _).symm⟩
/-- own things made into a new list, their parts the same -/
theorem St0.remake {K : PySem.W.Frag} {H : Hp} {G : Gh} {M L : List Cel} {us : List V} {es : List PyData} {p : Addr} (s : St0 K H G (M ++ L)) (hp : H p = none)
    (rv : ∀ F, Excl K H ⟨[], Hp0, G.f.v⟩ M F → ∃ F', Rx K (upd H p (.lst us)) (.ref p) (.list es) (p :: F') ∧ (∀ q ∈ F', q ∈ F) ∧ (F.Nodup → F'.Nodup)) : St0 K (upd H p (.lst us)) G (⟨.ref p, .un, .list es⟩ :: L) := by
  obtain ⟨E, st⟩ := s
  obtain ⟨F, E0, eM, eL, eE⟩ := excl_split st.ex
  subst eE
  obtain ⟨F2, r2, sub2, nd2⟩ := rv F eM
  have e := same_upd (o := HO.lst us) hp
  have nG : G.g p = none := (st.sm.trans hide_same).free hp
  have hE : ∀ q ∈ F ++ E0, H q ≠ none := fun q hq z => by
    obtain ⟨_, w, _⟩ := st.ex.mem q hq
    rw [z] at w; cases w
  have pE0 : p ∉ E0 := fun z => hE p (List.mem_append_right _ z) hp
  have pF2 : p ∉ F2 := fun z => hE p (List.mem_append_left _ (sub2 p z)) hp
  have nda := List.nodup_append.mp st.nd
  have nd' : (F2 ++ E0).Nodup := List.nodup_append.mpr ⟨nd2 nda.1, nda.2.1, fun a ha b hb => nda.2.2 a (sub2 a ha) b hb⟩
  have hs : ∀ b o, hide H (F ++ E0) b = some o → hide (upd H p (.lst us)) (p :: F2 ++ E0) b = some o := fun b o q => by
    have nE : b ∉ F ++ E0 := fun z => by rw [hide_in z] at q; cases q
    rw [hide_of nE] at q
    rw [hide_of]
    · exact e b o q
    · intro z
      rcases List.mem_append.mp z with z | z
      · rcases List.mem_cons.mp z with z | z
        · rw [z, hp] at q; cases q
        · exact nE (List.mem_append_left _ (sub2 b z))
      · exact nE (List.mem_append_right _ z)
  refine ⟨p :: F2 ++ E0, .un r2 (eL.same e), List.nodup_cons.mpr ⟨fun z => (List.mem_append.mp z).elim pF2 pE0, nd'⟩, fun q hq => ?_, st.sm.trans hs, st.gr.trans e, fun c hc => ?_⟩
  · rcases List.mem_append.mp hq with hq | hq
    · rcases List.mem_cons.mp hq with hq | hq
      · rw [hq]; exact nG
      · exact st.nw q (List.mem_append_left _ (sub2 q hq))
    · exact st.nw q (List.mem_append_right _ hq)
  · rcases List.mem_cons.mp hc with rfl | hc
    · trivial
    · have z := st.sn c (List.mem_append_right _ hc)
      obtain ⟨v', k', d'⟩ := c
      cases k' with
      | un => trivial
      | fr => obtain ⟨F', z⟩ := z; exact ⟨F', z.same hs⟩
      | br => obtain ⟨F', z⟩ := z; exact ⟨F', z.same e⟩
      | ro => exact dp_same hs z
      | rt => obtain ⟨a, vs, ds, F', h1, h2, h3, h4⟩ := z; exact ⟨a, vs, ds, F', h1, h2, e _ _ h3, h4.same hs⟩
      | io => trivial
/-- two tuples, one behind another -/
def wCatT : WO2 := fun k1 x k2 y Q => match x, y with
  | .tuple xs, .tuple ys => xs ≠ [] ∧ ys ≠ [] ∧ xs.length + ys.length ≤ sizeLine ∧ k1 ≠ .ro ∧ k2 ≠ .ro ∧ (if (flats xs && flats ys) = true then Q .un (.tuple (xs ++ ys)) else k1 ≠ .br ∧ k2 ≠ .br ∧ k1 ≠ .io ∧ k2 ≠ .io ∧ Q .fr (.tuple (xs ++ ys)))
  | _, _ => False
theorem lift_catT {K : PySem.W.Frag} : LiftO K (rCatT K) wCatT := by
  intro G H L k1 k2 x y v u Q Qp s hw q
  unfold wCatT at hw
  split at hw
  · rename_i xs ys
    obtain ⟨nx, ny, hl, n1, n2, hw⟩ := hw
    have ne : ∀ {vs : List V} {ds : List PyData}, DpAll K H vs ds → ds ≠ [] → vs ≠ [] := fun h n z => by subst z; cases h; exact n rfl
    split at hw
    · rename_i f
      rw [Bool.and_eq_true] at f
      have d2 := s.dp
      have d1 := s.drop.dp
      cases d1 with
      | @tup a ws _ ha ra1 =>
        cases d2 with
        | @tup b zs _ hb ra2 =>
          refine ⟨a, b, ws, zs, rfl, rfl, ha, hb, ne ra1 nx, by rw [dpAll_len ra1, dpAll_len ra2]; exact hl, fun z => absurd z (ne ra2 ny), fun _ p hp => ?_⟩
          have r : RxAll K H (ws ++ zs) (xs ++ ys) [] := rxAll_app (dpAll_flat ra1 f.1) (dpAll_flat ra2 f.2)
          exact q _ _ .un _ (s.drop.drop.fresh (F := []) (same_upd hp) (.tup (SqT.of upd_same) (r.same (same_upd hp))) .nil (by simp)) hw
    · obtain ⟨m1, m2, i1, i2, hw⟩ := hw
      have s1 := (s.frz2 m2 n2 i2).perm (.swap _ _ _)
      have s2 := s1.frz2 m1 n1 i1
      obtain ⟨E, st⟩ := s2
      obtain ⟨F1, q1⟩ := st.sn _ List.mem_cons_self
      obtain ⟨F2, q2⟩ := st.sn _ (List.mem_cons_of_mem _ List.mem_cons_self)
      cases q1 with
      | @tup a ws _ _ ha ra1 =>
        cases q2 with
        | @tup b zs _ _ hb ra2 =>
          have nx' : ws ≠ [] := fun z => by subst z; cases ra1; exact nx rfl
          have ny' : zs ≠ [] := fun z => by subst z; cases ra2; exact ny rfl
          refine ⟨a, b, ws, zs, rfl, rfl, sqT_same hide_same ha, sqT_same hide_same hb, nx', by rw [rxAll_len ra1, rxAll_len ra2]; exact hl, fun z => absurd z ny', fun _ p hp => ?_⟩
          have ex := st.ex
          cases ex with
          | fr ex =>
            cases ex with
            | fr ex =>
              have pE : p ∉ E := fun z => by
                obtain ⟨_, e, _⟩ := ex.mem p z
                rw [hp] at e; cases e
              have sm' : Same H (upd H p (.tup (ws ++ zs))) := same_upd hp
              refine q _ _ .fr _ ⟨E, .fr (ex.same sm'), st.nd, st.nw, st.sm.trans (hide_ext sm'), st.gr.trans sm', fun c hc => ?_⟩ hw
              rcases List.mem_cons.mp hc with rfl | hc
              · exact ⟨_, .tup (SqT.of (by rw [hide_of pE]; exact upd_same)) ((rxAll_app ra1 ra2).same (hide_ext sm'))⟩
              · exact (st.sn c (List.mem_cons_of_mem _ (List.mem_cons_of_mem _ hc))).ext sm'
  · exact hw.elim
theorem lift_cat {K : PySem.W.Frag} : LiftO K rCat wCat := by
  intro G H L k1 k2 x y v u Q Qp s hw q
  unfold wCat at hw
  split at hw
  · rename_i xs ys
    obtain ⟨hl, n1, n2, hw⟩ := hw
    obtain ⟨F2, r2⟩ := s.rx n2
    obtain ⟨F1, r1⟩ := s.drop.rx n1
    cases r2 with
    | @lst b zs _ F2' hb ra2 =>
      cases r1 with
      | @lst l ws _ F1' hl' ra1 =>
        refine ⟨l, b, ws, zs, rfl, rfl, hl', hb, by rw [rxAll_len ra1, rxAll_len ra2]; exact hl, fun p hp => ?_⟩
        split at hw
        · rename_i f
          rw [Bool.and_eq_true] at f
          have r := rxAll_app (rxAll_flat ra1 f.1) (rxAll_flat ra2 f.2)
          exact q _ _ .un _ (s.drop.drop.newUn r hp) hw
        · split at hw
          · rename_i hu
            have u1 : k1 = .un := by cases k1 <;> first | rfl | cases hu
            have u2 : k2 = .un := by subst u1; cases k2 <;> first | rfl | cases hu
            subst u1
            subst u2
            refine q _ _ .un _ (s.remake (M := [_, _]) hp fun F e => ?_) hw
            cases e with
            | un r e =>
              cases e with
              | un r' e =>
                cases e
                cases r with
                | lst h2 a2 =>
                  cases r' with
                  | lst h1 a1 =>
                    rw [hl'] at h1
                    cases h1
                    rw [hb] at h2
                    cases h2
                    refine ⟨_, .lst upd_same (rxAll_app (a1.same (same_upd hp)) (a2.same (same_upd hp))), fun q hq => ?_, fun nd => ?_⟩
                    · rcases List.mem_append.mp hq with z | z
                      · simp [z]
                      · simp [z]
                    · simp only [List.append_nil] at nd
                      have n1 := (List.nodup_cons.mp nd).2
                      have n2 := List.nodup_append.mp n1
                      exact List.nodup_append.mpr ⟨(List.nodup_cons.mp n2.2.1).2, n2.1, fun a ha b hb e => n2.2.2 b hb a (List.mem_cons_of_mem _ ha) e.symm⟩
          · obtain ⟨m1, m2, i1, i2, hw⟩ := hw
            have s1 := (s.frz2 m2 n2 i2).perm (.swap _ _ _)
            have s2 := s1.frz2 m1 n1 i1
            obtain ⟨E, st⟩ := s2
            obtain ⟨F1, q1⟩ := st.sn _ List.mem_cons_self
            obtain ⟨F2, q2⟩ := st.sn _ (List.mem_cons_of_mem _ List.mem_cons_self)
            cases q1 with
            | @lst _ ws' _ F1' hl1 rb1 =>
              cases q2 with
              | @lst _ zs' _ F2' hb1 rb2 =>
                have e1 : ws' = ws := by
                  have z := hide_same _ _ hl1
                  rw [hl'] at z; cases z; rfl
                have e2 : zs' = zs := by
                  have z := hide_same _ _ hb1
                  rw [hb] at z; cases z; rfl
                subst e1; subst e2
                have ex := st.ex
                cases ex with
                | fr ex =>
                  cases ex with
                  | fr ex =>
                    have st2 : Sta K H G L E := ⟨ex, st.nd, st.nw, st.sm, st.gr, fun c hc => st.sn c (List.mem_cons_of_mem _ (List.mem_cons_of_mem _ hc))⟩
                    exact q _ _ .fr _ (St0.newFr st2 (rxAll_app rb1 rb2) hp) hw
  · exact hw.elim
end
end PL
namespace PL
open PySem PySem.Spec L2 PyProof.Rows
/-! ### texts and tuples, many times -/
def rRepS : R2 := fun x y H Q => ∃ z n, x = .str z ∧ y = .int n ∧ MulOk z n ∧ Q (.str (Txt.mul z n)) H
theorem op_repS {X : Cx} : OpR X (binaryOp .Mult) rRepS := by
  intro pins s σ H x y v u Q I rx ry h
  obtain ⟨z, n, rfl, rfl, hok, q⟩ := h
  obtain ⟨t, rfl⟩ := rx
  obtain ⟨t', rfl⟩ := ry
  exact PySem.SB.mul hok fun t2 k => ⟨.str (Txt.mul z n), H, I.tok _, ⟨_, rfl⟩, q⟩
theorem tuple_mul1 (l : Addr) (items : Array Value) (n : Nat) (dd : Option Addr) (sl : Array (Option Value)) (u : Tok) :
    Meets (Builtin.«tuple.__mul__» ⟨[.ref l, .int 1 u], []⟩) (fun _ R s => s.heap.get? l = some { cls := .type "tuple", dict := dd, data := .seq items n, slots := sl } ∧ R (.ok (.ret (Value.ref l))) s) :=
  .of_wp fun prog w A R s h => by
    obtain ⟨hp, g, d, tk, os⟩ := s
    obtain ⟨hl, h⟩ := h
    have f1 := AutoSeq1.idx_int
    wp_walk using wpAny_loadPart' hl
    exact ⟨_, rfl, h⟩
def rRepT1 (K : PySem.W.Frag) : R2 := fun x y H Q => ∃ l k v, x = .ref l ∧ y = .int k ∧ SqT K H l [v] ∧ 1 ≤ k ∧ k ≤ 1000 ∧ ((k = 1 ∧ Q (.ref l) H) ∨ (2 ≤ k ∧ ∀ p, H p = none → Q (.ref p) (upd H p (.tup (List.replicate k.toNat v)))))
theorem rep_flat (v : V) : ∀ n : Nat, (List.replicate n [v]).flatten = List.replicate n v
  | 0 => rfl
  | n + 1 => by rw [List.replicate_succ, List.flatten_cons, rep_flat v n, List.replicate_succ]; rfl
theorem op_repT1 {X : Cx} : OpR X (binaryOp .Mult) (rRepT1 X.K) := by
  intro pins s σ H x y v u Q I rx ry h
  obtain ⟨l, k, w, rfl, rfl, hT, h1, h2, q⟩ := h
  rcases q with ⟨rfl, q⟩ | ⟨h3, q⟩
  · cases rx
    obtain ⟨t, rfl⟩ := ry
    obtain ⟨its, r, ⟨⟨cls, dd, data, sl⟩, ho, hc, n, hd⟩, hs⟩ := I.tuple hT
    simp only at hc hd
    subst hc hd
    refine wpAny_binaryOp_repeat_ref (T := "tuple") (U := "int") (by decide) ⟨_, ho, rfl⟩ (fun s' => typeIs_int s' 1 t) noFill_tuple_mul F.fills_int_mul F.slot_int_rmul repeat_tuple F.slot_int_index.lookup
      (call_meets F.slot_int_rmul (typeIs_int s 1 t) F.entry_int_rmul (F.args_int_rmul_2 _ _) (int_rmul_tuple 1 t l its.toArray n dd sl)
        ⟨ho, rfl, ⟨_, ho, rfl⟩, call_meets F.slot_tuple_mul ⟨_, ho, rfl⟩ F.entry_tuple_mul (F.args_tuple_mul_2 _ _) (tuple_mul1 l its.toArray n dd sl t) ⟨ho, ?_⟩⟩)
    exact ⟨.ref l, H, I, rfl, q⟩
  · refine op_repT pins s σ H _ _ v u Q I rx ry ⟨l, k, [w], rfl, rfl, hT, by simp, h3, h2, by simp, fun p hp => ?_⟩
    rw [rep_flat]
    exact q p hp
def rRepA (K : PySem.W.Frag) : R2 := fun x y H Q => rRep x y H Q ∨ (rRepS x y H Q ∨ rRepT1 K x y H Q)
theorem op_repA {X : Cx} : OpR X (binaryOp .Mult) (rRepA X.K) := op_rep.or (op_repS.or op_repT1)
end PL
namespace PL
open PySem PySem.Spec L2

section
variable {X : Cx} {e a b c : Expr} {es : List Expr} {pos : Pos} {wa wb wc : WE} {wt wu : WT} {was : WA} {ta tb tc : TE}
/-! ### + of what may be added -/
def wAdd : WO2 := fun k1 x k2 y Q => match x, y with
  | .int i, .int j => Q .un (.int (i + j))
  | .str i, .str j => i.length + j.length ≤ sizeLine ∧ Q .un (.str (i ++ j))
  | .list xs, .list ys => wCat k1 (.list xs) k2 (.list ys) Q
  | .tuple xs, .tuple ys => wCatT k1 (.tuple xs) k2 (.tuple ys) Q
  | _, _ => False
theorem lift_addI {K : PySem.W.Frag} : LiftO K (rI0 fun i j => .int (i + j)) (fun _ x _ y Q => oI (fun _ _ => True) (fun i j => .int (i + j)) x y (Q .un)) := lift_rI0 fun i j H => .int _
theorem lift_addS {K : PySem.W.Frag} : LiftO K (fun x y H Q => ∃ i j, x = .str i ∧ y = .str j ∧ i.length + j.length ≤ sizeLine ∧ Q (.str (i ++ j)) H) (fun _ x _ y Q => match x, y with
    | .str i, .str j => i.length + j.length ≤ sizeLine ∧ Q .un (.str (i ++ j))
    | _, _ => False) := by
  intro G H L k1 k2 x y v u Q Qp s hw q
  have hx := s.drop.dp
  have hy := s.dp
  split at hw
  · rename_i i j
    cases hx
    cases hy
    exact ⟨i, j, rfl, rfl, hw.1, q _ H .un _ (s.drop.drop.scal (.str _)) hw.2⟩
  · exact hw.elim
theorem ex_add (ha : PEx X a wa) (hb : PEx X b wb) : PEx X (.BinOp a .Add b pos) (w2 wAdd wa wb) := by
  obtain ⟨ta, pa, la⟩ := ha; obtain ⟨tb, pb, lb⟩ := hb
  refine ⟨_, pe_op (op_add.or (op_add_str.or (op_cat.or op_catT))) pa pb, lift_2 ?_ la lb⟩
  refine (lift_addI.or (lift_addS.or (lift_cat.or lift_catT))).imp fun k1 x k2 y Q h => ?_
  unfold wAdd at h
  split at h
  · exact .inl ⟨trivial, h⟩
  · exact .inr (.inl h)
  · exact .inr (.inr (.inl h))
  · exact .inr (.inr (.inr h))
  · exact h.elim

/-! ### a list of one thing, many times -/
def wRep : WO2 := fun k1 x _ y Q => match x, y with
  | .list [d], .int n => k1 ≠ .ro ∧ n < 2 ^ 62 ∧ -(2 ^ 62) < n ∧ n.toNat ≤ sizeLine ∧ (if flat d = true then Q .un (.list (List.replicate n.toNat d)) else k1 ≠ .br ∧ k1 ≠ .io ∧ Q .fr (.list (List.replicate n.toNat d)))
  | .str z, .int n => MulOk z n ∧ Q .un (.str (Txt.mul z n))
  | .tuple [.str z], .int n => 1 ≤ n ∧ n ≤ 1000 ∧ Q .un (.tuple (List.replicate n.toNat (.str z)))
  | _, _ => False
theorem rxAll_repF {K : PySem.W.Frag} {H : Hp} {v : V} {d : PyData} {F : List Addr} (r : Rx K H v d F) : ∀ n : Nat, ∃ F', RxAll K H (List.replicate n v) (List.replicate n d) F'
  | 0 => ⟨_, .nil⟩
  | n + 1 => by
    obtain ⟨F', h⟩ := rxAll_repF r n
    rw [List.replicate_succ, List.replicate_succ]
    exact ⟨_, .cons r h⟩
theorem rxAll_rep {K : PySem.W.Frag} {H : Hp} {v : V} {d : PyData} (r : Rx K H v d []) : ∀ n : Nat, RxAll K H (List.replicate n v) (List.replicate n d) []
  | 0 => .nil
  | n + 1 => by
    rw [List.replicate_succ, List.replicate_succ]
    exact .cons r (rxAll_rep r n)
theorem flatten_rep (v : V) : ∀ n : Nat, (List.replicate n [v]).flatten = List.replicate n v
  | 0 => rfl
  | n + 1 => by rw [List.replicate_succ, List.flatten_cons, flatten_rep v n, List.replicate_succ]; rfl
theorem lift_rep {K : PySem.W.Frag} : LiftO K (rRepA K) wRep := by
  intro G H L k1 k2 x y v u Q Qp s hw q
  have hy := s.dp
  unfold wRep at hw
  split at hw
  · rename_i d n
    obtain ⟨n1, hn, hn', hl, hw⟩ := hw
    cases hy
    split at hw
    · rename_i f
      obtain ⟨F1, r1⟩ := s.drop.rx n1
      cases r1 with
      | @lst l ws _ F1' hl' ra1 =>
        cases ra1 with
        | @cons v0 vs _ _ Fa Fb r0 rn =>
          cases rn
          refine .inl ⟨l, n, [v0], rfl, rfl, hl', by omega, by omega, by simpa using hl, fun p hp => ?_⟩
          rw [flatten_rep]
          have r0' : Rx K H v0 d [] := by
            have := dp_flat r0.dp f
            exact this
          exact q _ _ .un _ (s.drop.drop.newUn (rxAll_rep r0' _) hp) hw
    · obtain ⟨n2, n3, hw⟩ := hw
      obtain ⟨E, st⟩ := s.drop.frz2 n2 n1 n3
      obtain ⟨F1, q1⟩ := st.sn _ List.mem_cons_self
      have ex := st.ex
      cases q1 with
      | @lst l zs _ _ hs ha =>
        cases ex with
        | fr ex =>
          cases ha with
          | @cons v0 vs _ _ Fa Fb r0 rn =>
            cases rn
            obtain ⟨F', hr⟩ := rxAll_repF r0 n.toNat
            refine .inl ⟨l, n, [v0], rfl, rfl, hide_same _ _ hs, by omega, by omega, by simpa using hl, fun p hp => ?_⟩
            rw [flatten_rep]
            have st' : Sta K H G L E := ⟨ex, st.nd, st.nw, st.sm, st.gr, fun c hc => st.sn c (List.mem_cons_of_mem _ hc)⟩
            exact q _ _ .fr _ (St0.newFr st' hr hp) hw
  · rename_i z n
    cases hy
    have hx := s.drop.dp
    cases hx
    exact .inr (.inl ⟨z, n, rfl, rfl, hw.1, q _ H .un _ (s.drop.drop.scal (.str _)) hw.2⟩)
  · rename_i z n
    obtain ⟨h1, h2, hw⟩ := hw
    cases hy
    have hx := s.drop.dp
    cases hx with
    | @tup l xs _ hs ha =>
      cases ha with
      | cons r rn =>
        cases rn
        cases r
        refine .inr (.inr ⟨l, n, .str z, rfl, rfl, hs, h1, h2, ?_⟩)
        by_cases e : n = 1
        · subst e
          refine .inl ⟨rfl, q _ H .un _ (s.drop.flatUn rfl) hw⟩
        · refine .inr ⟨by omega, fun p hp => q _ _ .un _ (s.drop.drop.fresh (F := []) (same_upd hp) (.tup (SqT.of upd_same) (rxAll_rep (.str z) _)) .nil (by simp)) hw⟩
  · exact hw.elim

/-! ### comparisons -/
def wLt : WO2 := fun _ x _ y Q => oI (fun _ _ => True) (fun i j => .bool (decide (i < j))) x y (Q .un)
def wLe : WO2 := fun _ x _ y Q => oI (fun _ _ => True) (fun i j => .bool (decide (i ≤ j))) x y (Q .un)
def wGt : WO2 := fun _ x _ y Q => oI (fun _ _ => True) (fun i j => .bool (decide (j < i))) x y (Q .un)
def wGe : WO2 := fun _ x _ y Q => oI (fun _ _ => True) (fun i j => .bool (decide (j ≤ i))) x y (Q .un)
def wEq : WO2 := fun _ x _ y Q => SeqAt.shaped x = true ∧ SeqAt.shaped y = true ∧ Q .un (.bool (PyData.eqv x y))
def wNe : WO2 := fun _ x _ y Q => SeqAt.shaped x = true ∧ SeqAt.shaped y = true ∧ Q .un (.bool (!PyData.eqv x y))
def isNon : PyData → Bool
  | .none => true
  | .bool _ => false
  | .int _ => false
  | .str _ => false
  | .list _ => false
  | .tuple _ => false
  | .dict _ => false
def wIs : WO2 := fun _ x _ y Q => match y, x with
  | .none, x => Q .un (.bool (isNon x))
  | .bool b, .bool a => Q .un (.bool (decide (a = b)))
  | _, _ => False
def wIsNot : WO2 := fun _ x _ y Q => match y, x with
  | .none, x => Q .un (.bool (!isNon x))
  | .bool b, .bool a => Q .un (.bool (!decide (a = b)))
  | _, _ => False
def occ (i j : Str) : Bool := !(Builtin.Str.occurrences j i 0 j.length 1).isEmpty
def wIn : WO2 := fun _ x _ y Q => match x, y with
  | .str i, .str j => Q .un (.bool (occ i j))
  | d, .list ds => SeqAt.shaped d = true ∧ SeqAt.shaped (.list ds) = true ∧ Q .un (.bool (ds.any fun z => PyData.eqv z d))
  | _, _ => False
def wNotIn : WO2 := fun _ x _ y Q => match x, y with
  | .str i, .str j => Q .un (.bool (!occ i j))
  | d, .list ds => SeqAt.shaped d = true ∧ SeqAt.shaped (.list ds) = true ∧ Q .un (.bool (!ds.any fun z => PyData.eqv z d))
  | _, _ => False
theorem dp_isNon {K : PySem.W.Frag} {H : Hp} {v : V} {d : PyData} (h : Dp K H v d) : decide (v = .non) = isNon d := by
  cases h <;> simp [isNon]
theorem dp_isNon2 {K : PySem.W.Frag} {H : Hp} {v : V} {d : PyData} (h : Dp K H v d) : (!decide (v = .non)) = !isNon d := by rw [dp_isNon h]
/-- an operator of comparison, its rule and its word -/
structure CmpOk (X : Cx) (op : CmpOp) (wo : WO2) : Prop where
  ex : ∃ r, OpR X (compareOp op) r ∧ LiftO X.K r wo
theorem cmp_lt : CmpOk X .Lt wLt := ⟨_, op_lt, lift_rI0 fun _ _ _ => .bl _⟩
theorem cmp_le : CmpOk X .LtE wLe := ⟨_, op_le, lift_rI0 fun _ _ _ => .bl _⟩
theorem cmp_gt : CmpOk X .Gt wGt := ⟨_, op_gt, lift_rI0 fun _ _ _ => .bl _⟩
theorem cmp_ge : CmpOk X .GtE wGe := ⟨_, op_ge, lift_rI0 fun _ _ _ => .bl _⟩
theorem cmp_eq (hu : X.A.units + 64 < cLine) : CmpOk X .Eq wEq := ⟨_, op_eqD hu, by
  intro G H L k1 k2 x y v u Q Qp s hw q
  exact ⟨x, y, s.drop.dp.sh hw.1, s.dp.sh hw.2.1, hw.1, hw.2.1, q _ H .un _ (s.drop.drop.scal (.bl _)) hw.2.2⟩⟩
theorem cmp_ne (hu : X.A.units + 64 < cLine) : CmpOk X .NotEq wNe := ⟨_, op_neD hu, by
  intro G H L k1 k2 x y v u Q Qp s hw q
  exact ⟨x, y, s.drop.dp.sh hw.1, s.dp.sh hw.2.1, hw.1, hw.2.1, q _ H .un _ (s.drop.drop.scal (.bl _)) hw.2.2⟩⟩
theorem cmp_in (hu : X.A.units + 65 < cLine) : CmpOk X .In wIn := ⟨_, op_in_str.or (op_inD hu), by
  intro G H L k1 k2 x y v u Q Qp s hw q
  have hx := s.drop.dp
  have hy := s.dp
  unfold wIn at hw
  split at hw
  · cases hx
    cases hy
    exact .inl ⟨_, _, rfl, rfl, q _ H .un _ (s.drop.drop.scal (.bl _)) hw⟩
  · exact .inr ⟨_, _, hx.sh hw.1, hy.sh hw.2.1, hw.1, hw.2.1, q _ H .un _ (s.drop.drop.scal (.bl _)) hw.2.2⟩
  · exact hw.elim⟩
theorem cmp_notIn (hu : X.A.units + 65 < cLine) : CmpOk X .NotIn wNotIn := ⟨_, op_notIn_str.or (op_notInD hu), by
  intro G H L k1 k2 x y v u Q Qp s hw q
  have hx := s.drop.dp
  have hy := s.dp
  unfold wNotIn at hw
  split at hw
  · cases hx
    cases hy
    exact .inl ⟨_, _, rfl, rfl, q _ H .un _ (s.drop.drop.scal (.bl _)) hw⟩
  · exact .inr ⟨_, _, hx.sh hw.1, hy.sh hw.2.1, hw.1, hw.2.1, q _ H .un _ (s.drop.drop.scal (.bl _)) hw.2.2⟩
  · exact hw.elim⟩
theorem ex_cmp {op : CmpOp} {wo : WO2} (ho : CmpOk X op wo) (ha : PEx X a wa) (hb : PEx X b wb) (hm : behindInMarks op b = false) : PEx X (.Compare a [op] [b] pos) (w2 wo wa wb) := by
  obtain ⟨r, hr, lr⟩ := ho.ex; obtain ⟨ta, pa, la⟩ := ha; obtain ⟨tb, pb, lb⟩ := hb
  exact ⟨_, pe_cmpR hr pa pb hm, lift_2 lr la lb⟩
/-- a bool read as a test -/
def wB (w : WE) : WT := fun ρ Q => w ρ fun ρ1 _ d => match d with
  | .bool b => Q ρ1 b
  | _ => False
theorem lift_B {K : PySem.W.Frag} {t : TE} {w : WE} (l : LiftE K t w) : LiftT K (tTest t) (wB w) := by
  intro G H σ ρ L Q Qp ok s h q
  refine l G H σ ρ L _ _ ok s h fun v H1 ρ1 k d ok1 s1 h1 => ?_
  have dv := s1.dp
  split at h1
  · cases dv
    exact ⟨_, rfl, q _ H1 ρ1 ok1 s1.drop h1⟩
  · exact h1.elim
theorem tx_cmp {op : CmpOp} {wo : WO2} (ho : CmpOk X op wo) (ha : PEx X a wa) (hb : PEx X b wb) (hm : behindInMarks op b = false) : PTx X (.Compare a [op] [b] pos) (wB (w2 wo wa wb)) := by
  obtain ⟨r, hr, lr⟩ := ho.ex; obtain ⟨ta, pa, la⟩ := ha; obtain ⟨tb, pb, lb⟩ := hb
  exact ⟨_, pt_cmpR hr pa pb hm, lift_B (lift_2 lr la lb)⟩
/-- a op b op' c -/
def boo (d : PyData) (A B : Prop) : Prop := match d with
  | .bool true => A
  | .bool false => B
  | _ => False
theorem boo_bool (b : Bool) (A B : Prop) : boo (.bool b) A B = if b = true then A else B := by
  cases b
  · rw [if_neg Bool.false_ne_true]; rfl
  · rw [if_pos rfl]; rfl
def wChain (wo wo' : WO2) (wa wb wc : WE) : WE := fun ρ Q => wa ρ fun ρ1 k1 x => wb ρ1 fun ρ2 k2 y => wo k1 x (kv k2 y) y fun _ z =>
  boo z (wc ρ2 fun ρ3 k3 u => wo' k2 y k3 u fun k d => Q ρ3 k d) (Q ρ2 .un (.bool false))
theorem lift_chain {K : PySem.W.Frag} {r r' : R2} {wo wo' : WO2} (ho : LiftO K r wo) (ho' : LiftO K r' wo') (la : LiftE K ta wa) (lb : LiftE K tb wb) (lc : LiftE K tc wc) : LiftE K (tChain r r' ta tb tc) (wChain wo wo' wa wb wc) := by
  intro G H σ ρ L Q Qp ok s h q
  refine la G H σ ρ L _ _ ok s h fun v H1 ρ1 k1 x ok1 s1 h1 => ?_
  refine lb G H1 σ ρ1 (⟨v, k1, x⟩ :: L) _ _ ok1 (s1.perm List.perm_middle.symm) h1 fun u H2 ρ2 k2 y ok2 s2 h2 => ?_
  have s3 := s2.look
  -- the left one behind the borrowed middle one
  have s4 : St0 K H2 G (⟨u, kv k2 y, y⟩ :: ⟨v, k1, x⟩ :: ⟨u, k2, y⟩ :: (lv σ ρ2 ++ L)) := by
    refine s3.perm (List.Perm.cons _ ?_)
    exact (List.Perm.cons _ List.perm_middle).trans (.swap _ _ _)
  refine ho G H2 _ k1 _ x y v u _ _ s4 h2 fun z H3 k d s5 h3 => ?_
  have dz := s5.dp
  unfold boo at h3
  split at h3
  · cases dz
    refine ⟨true, rfl, ?_⟩
    rw [if_pos rfl]
    have s6 : St0 K H3 G (lv σ ρ2 ++ (⟨u, k2, y⟩ :: L)) := s5.drop.perm List.perm_middle.symm
    refine lc G H3 σ ρ2 _ _ _ ok2 s6 h3 fun w' H4 ρ3 k3 t ok3 s7 h4 => ?_
    refine ho' G H4 (lv σ ρ3 ++ L) k2 k3 y t u w' Q _ (s7.perm (List.perm_middle.cons _)) h4 fun z' H5 k' d' s8 h5 => ?_
    exact q z' H5 ρ3 k' d' ok3 s8 h5
  · cases dz
    refine ⟨false, rfl, ?_⟩
    rw [if_neg Bool.false_ne_true]
    exact q _ H3 ρ2 .un _ ok2 (s5.drop.drop.scal (.bl false)) h3
  · exact h3.elim
def wChain3 (wo wo' wo2 : WO2) (wa wb wc wd : WE) : WE := fun ρ Q => wa ρ fun ρ1 k1 x => wb ρ1 fun ρ2 k2 y => wo k1 x (kv k2 y) y fun _ z =>
  boo z (wc ρ2 fun ρ3 k3 u => wo' k2 y (kv k3 u) u fun _ z' => boo z' (wd ρ3 fun ρ4 k4 t => wo2 k3 u k4 t fun k d => Q ρ4 k d) (Q ρ3 .un (.bool false))) (Q ρ2 .un (.bool false))
def tChain3 (r r' r2 : R2) (ta tb tc td : TE) : TE := fun σ H Q => ta σ H fun x H1 => tb σ H1 fun y H2 => r x y H2 fun z H3 => ∃ k, z = .bl k ∧
  (if k = true then tc σ H3 fun w' H4 => r' y w' H4 fun z' H5 => ∃ k', z' = .bl k' ∧ (if k' = true then td σ H5 fun u' H6 => r2 w' u' H6 Q else Q (.bl false) H5) else Q (.bl false) H3)
theorem lift_chain3 {K : PySem.W.Frag} {r r' r2 : R2} {wo wo' wo2 : WO2} {td : TE} {wd : WE} (ho : LiftO K r wo) (ho' : LiftO K r' wo') (ho2 : LiftO K r2 wo2) (la : LiftE K ta wa) (lb : LiftE K tb wb) (lc : LiftE K tc wc) (ld : LiftE K td wd) :
    LiftE K (tChain3 r r' r2 ta tb tc td) (wChain3 wo wo' wo2 wa wb wc wd) := by
  intro G H σ ρ L Q Qp ok s h q
  refine la G H σ ρ L _ _ ok s h fun v H1 ρ1 k1 x ok1 s1 h1 => ?_
  refine lb G H1 σ ρ1 (⟨v, k1, x⟩ :: L) _ _ ok1 (s1.perm List.perm_middle.symm) h1 fun u H2 ρ2 k2 y ok2 s2 h2 => ?_
  have s4 : St0 K H2 G (⟨u, kv k2 y, y⟩ :: ⟨v, k1, x⟩ :: ⟨u, k2, y⟩ :: (lv σ ρ2 ++ L)) := by
    refine s2.look.perm (List.Perm.cons _ ?_)
    exact (List.Perm.cons _ List.perm_middle).trans (.swap _ _ _)
  refine ho G H2 _ k1 _ x y v u _ _ s4 h2 fun z H3 k d s5 h3 => ?_
  have dz := s5.dp
  unfold boo at h3
  split at h3
  · cases dz
    refine ⟨true, rfl, ?_⟩
    rw [if_pos rfl]
    have s6 : St0 K H3 G (lv σ ρ2 ++ (⟨u, k2, y⟩ :: L)) := s5.drop.perm List.perm_middle.symm
    refine lc G H3 σ ρ2 _ _ _ ok2 s6 h3 fun w' H4 ρ3 k3 t ok3 s7 h4 => ?_
    have s8 : St0 K H4 G (⟨w', kv k3 t, t⟩ :: ⟨u, k2, y⟩ :: ⟨w', k3, t⟩ :: (lv σ ρ3 ++ L)) := by
      refine s7.look.perm (List.Perm.cons _ ?_)
      exact (List.Perm.cons _ List.perm_middle).trans (.swap _ _ _)
    refine ho' G H4 _ k2 _ y t u w' _ _ s8 h4 fun z' H5 k' d' s9 h5 => ?_
    have dz' := s9.dp
    split at h5
    · cases dz'
      refine ⟨true, rfl, ?_⟩
      rw [if_pos rfl]
      have s10 : St0 K H5 G (lv σ ρ3 ++ (⟨w', k3, t⟩ :: L)) := s9.drop.perm List.perm_middle.symm
      refine ld G H5 σ ρ3 _ _ _ ok3 s10 h5 fun w2 H6 ρ4 k4 t2 ok4 s11 h6 => ?_
      exact ho2 G H6 (lv σ ρ4 ++ L) k3 k4 t t2 w' w2 Q _ (s11.perm (List.perm_middle.cons _)) h6 fun z2 H7 k5 d5 s12 h7 => q z2 H7 ρ4 k5 d5 ok4 s12 h7
    · cases dz'
      refine ⟨false, rfl, ?_⟩
      rw [if_neg Bool.false_ne_true]
      exact q _ H5 ρ3 .un _ ok3 (s9.drop.drop.scal (.bl false)) h5
    · exact h5.elim
  · cases dz
    refine ⟨false, rfl, ?_⟩
    rw [if_neg Bool.false_ne_true]
    exact q _ H3 ρ2 .un _ ok2 (s5.drop.drop.scal (.bl false)) h3
  · exact h3.elim
theorem pe_chain3 {op op' op2 : CmpOp} {r r' r2 : R2} {d : Expr} {td : TE} (ho : OpR X (compareOp op) r) (ho' : OpR X (compareOp op') r') (ho2 : OpR X (compareOp op2) r2) (ha : PE X a ta) (hb : PE X b tb) (hc : PE X c tc) (hd : PE X d td)
    (hm : lastMarks [op, op', op2] [b, c, d] = false) : PE X (.Compare a [op, op', op2] [b, c, d] pos) (tChain3 r r' r2 ta tb tc td) := by
  refine ⟨fun pins s σ H Q I h => ?_⟩
  refine PyProof.Rows.Compare_chain (thn (ha.run pins s σ H _ I h) fun v s1 ⟨x, H1, I1, r1, q1⟩ => PyProof.Rows.chain_link (thn (hb.run pins s1 σ H1 _ I1 q1) fun u s2 ⟨y, H2, I2, r2, q2⟩ =>
    thn (ho pins s2 σ H2 x y v u _ I2 r1 r2 q2) fun d s3 ⟨z, H3, I3, r3, k, e, q3⟩ => ?_)) hm
  subst e
  cases r3
  refine wpAny_truthy_bool ?_
  cases k with
  | false => exact PyProof.Rows.ite_ff ⟨.bl false, H3, I3, rfl, q3⟩
  | true =>
    refine PyProof.Rows.ite_tt (PyProof.Rows.chain_link (thn (hc.run pins s3 σ H3 _ I3 q3) fun w' s4 ⟨z', H4, I4, r4, q4⟩ => thn (ho' pins s4 σ H4 y z' u w' _ I4 r2 r4 q4) fun d s5 ⟨z2, H5, I5, r5, k', e', q5⟩ => ?_))
    subst e'
    cases r5
    refine wpAny_truthy_bool ?_
    cases k' with
    | false => exact PyProof.Rows.ite_ff ⟨.bl false, H5, I5, rfl, q5⟩
    | true => exact PyProof.Rows.ite_tt (PyProof.Rows.chain_last (thn (hd.run pins s5 σ H5 _ I5 q5) fun w2 s6 ⟨z3, H6, I6, r6, q6⟩ => ho2 pins s6 σ H6 z' z3 w' w2 Q I6 r4 r6 q6))
theorem ex_chain {op op' : CmpOp} {wo wo' : WO2} (ho : CmpOk X op wo) (ho' : CmpOk X op' wo') (ha : PEx X a wa) (hb : PEx X b wb) (hc : PEx X c wc) (hm : lastMarks [op, op'] [b, c] = false) : PEx X (.Compare a [op, op'] [b, c] pos) (wChain wo wo' wa wb wc) := by
  obtain ⟨r, hr, lr⟩ := ho.ex; obtain ⟨r', hr', lr'⟩ := ho'.ex; obtain ⟨ta, pa, la⟩ := ha; obtain ⟨tb, pb, lb⟩ := hb; obtain ⟨tc, pc, lc⟩ := hc
  exact ⟨_, pe_chain hr hr' pa pb pc hm, lift_chain lr lr' la lb lc⟩
theorem tx_chain {op op' : CmpOp} {wo wo' : WO2} (ho : CmpOk X op wo) (ho' : CmpOk X op' wo') (ha : PEx X a wa) (hb : PEx X b wb) (hc : PEx X c wc) (hm : lastMarks [op, op'] [b, c] = false) : PTx X (.Compare a [op, op'] [b, c] pos) (wB (wChain wo wo' wa wb wc)) := by
  obtain ⟨r, hr, lr⟩ := ho.ex; obtain ⟨r', hr', lr'⟩ := ho'.ex; obtain ⟨ta, pa, la⟩ := ha; obtain ⟨tb, pb, lb⟩ := hb; obtain ⟨tc, pc, lc⟩ := hc
  exact ⟨_, pt_chain hr hr' pa pb pc hm, lift_B (lift_chain lr lr' la lb lc)⟩

/-! ### truth -/
def wTru (d : PyData) (Q : Bool → Prop) : Prop := match d with
  | .none => Q false
  | .bool b => Q b
  | .int i => Q (i != 0)
  | .str y => y.length ≤ sizeLine ∧ Q ((y.length : Int) != 0)
  | .list xs => Q (!xs.isEmpty)
  | .tuple xs => Q (!xs.isEmpty)
  | .dict _ => False
def wTr (w : WE) : WT := fun ρ Q => w ρ fun ρ1 _ d => wTru d fun b => Q ρ1 b
theorem lift_tr {K : PySem.W.Frag} {t : TE} {w : WE} (l : LiftE K t w) : LiftT K (fun σ H Q => t σ H fun x H' => ∃ k, TruV K x H' k ∧ Q k H') (wTr w) := by
  intro G H σ ρ L Q Qp ok s h q
  refine l G H σ ρ L _ _ ok s h fun v H1 ρ1 k d ok1 s1 h1 => ?_
  have dv := s1.dp
  unfold wTru at h1
  split at h1
  · cases dv; exact ⟨_, rfl, q _ H1 ρ1 ok1 s1.drop h1⟩
  · cases dv; exact ⟨_, rfl, q _ H1 ρ1 ok1 s1.drop h1⟩
  · cases dv; exact ⟨_, rfl, q _ H1 ρ1 ok1 s1.drop h1⟩
  · cases dv; exact ⟨_, ⟨h1.1, rfl⟩, q _ H1 ρ1 ok1 s1.drop h1.2⟩
  · rename_i xs
    cases dv with
    | lst hs ha => exact ⟨_, .inl ⟨_, hs, rfl⟩, q _ H1 ρ1 ok1 s1.drop (by cases ha <;> exact h1)⟩
  · rename_i xs
    cases dv with
    | tup hs ha => exact ⟨_, .inr (.inl ⟨_, hs, rfl⟩), q _ H1 ρ1 ok1 s1.drop (by cases ha <;> exact h1)⟩
  · exact h1.elim
theorem tx_tr (ha : PEx X a wa) (he : ∀ whole, isTrue a X.env whole = (do let v ← whole; standAt a.pos; holding [v] (truthy v))) : PTx X a (wTr wa) := by
  obtain ⟨t, p, l⟩ := ha
  exact ⟨_, pt_truth p he, lift_tr l⟩

/-! ### and, or, not -/
def wTAnd (w u : WT) : WT := fun ρ Q => w ρ fun ρ1 b => if b = true then u ρ1 Q else Q ρ1 false
def wTOr (w u : WT) : WT := fun ρ Q => w ρ fun ρ1 b => if b = true then Q ρ1 true else u ρ1 Q
def wTNot (w : WT) : WT := fun ρ Q => w ρ fun ρ1 b => Q ρ1 (!b)
theorem wx_and1 (h : PTx X a wt) : PWx X (.BoolOp .And [a] pos) wt := by
  obtain ⟨t, p, l⟩ := h; exact ⟨_, pw_and1 p, l⟩
theorem wx_or1 (h : PTx X a wt) : PWx X (.BoolOp .Or [a] pos) wt := by
  obtain ⟨t, p, l⟩ := h; exact ⟨_, pw_or1 p, l⟩
theorem wx_and {rest : List Expr} (ha : PTx X a wt) (hb : PWx X (.BoolOp .And (b :: rest) pos) wu) : PWx X (.BoolOp .And (a :: b :: rest) pos) (wTAnd wt wu) := by
  obtain ⟨ta, pa, la⟩ := ha; obtain ⟨tb, pb, lb⟩ := hb
  refine ⟨_, pw_and pa pb, ?_⟩
  intro G H σ ρ L Q Qp ok s h q
  refine la G H σ ρ L _ _ ok s h fun c H1 ρ1 ok1 s1 h1 => ?_
  cases c with
  | true => rw [if_pos rfl] at h1 ⊢; exact lb G H1 σ ρ1 L _ _ ok1 s1 h1 q
  | false => rw [if_neg Bool.false_ne_true] at h1 ⊢; exact q _ H1 ρ1 ok1 s1 h1
theorem wx_or {rest : List Expr} (ha : PTx X a wt) (hb : PWx X (.BoolOp .Or (b :: rest) pos) wu) : PWx X (.BoolOp .Or (a :: b :: rest) pos) (wTOr wt wu) := by
  obtain ⟨ta, pa, la⟩ := ha; obtain ⟨tb, pb, lb⟩ := hb
  refine ⟨_, pw_or pa pb, ?_⟩
  intro G H σ ρ L Q Qp ok s h q
  refine la G H σ ρ L _ _ ok s h fun c H1 ρ1 ok1 s1 h1 => ?_
  cases c with
  | true => rw [if_pos rfl] at h1 ⊢; exact q _ H1 ρ1 ok1 s1 h1
  | false => rw [if_neg Bool.false_ne_true] at h1 ⊢; exact lb G H1 σ ρ1 L _ _ ok1 s1 h1 q
theorem PWx.pt (h : PWx X a wt) : PTx X a wt := by obtain ⟨t, p, l⟩ := h; exact ⟨_, p.pt, l⟩
theorem tx_not (h : PTx X a wt) : PTx X (.UnaryOp .Not a pos) (wTNot wt) := by
  obtain ⟨t, p, l⟩ := h
  refine ⟨_, pt_not p, ?_⟩
  intro G H σ ρ L Q Qp ok s h q
  exact l G H σ ρ L _ _ ok s h fun c H1 ρ1 ok1 s1 h1 => q _ H1 ρ1 ok1 s1 h1
/-- as values: of bools -/
def wAnd (w u : WE) : WE := fun ρ Q => w ρ fun ρ1 _ d => boo d (u ρ1 Q) (Q ρ1 .un (.bool false))
def wOr (w u : WE) : WE := fun ρ Q => w ρ fun ρ1 _ d => boo d (Q ρ1 .un (.bool true)) (u ρ1 Q)
theorem ex_one {op} (h : PEx X a wa) : PEx X (.BoolOp op [a] pos) wa := by
  obtain ⟨t, p, l⟩ := h; exact ⟨_, pe_one p, l⟩
theorem ex_and {rest : List Expr} (ha : PEx X a wa) (hb : PEx X (.BoolOp .And (b :: rest) pos) wb) : PEx X (.BoolOp .And (a :: b :: rest) pos) (wAnd wa wb) := by
  obtain ⟨ta, pa, la⟩ := ha; obtain ⟨tb, pb, lb⟩ := hb
  refine ⟨_, pe_and pa pb, ?_⟩
  intro G H σ ρ L Q Qp ok s h q
  refine la G H σ ρ L _ _ ok s h fun v H1 ρ1 k d ok1 s1 h1 => ?_
  have dv := s1.dp
  unfold boo at h1
  split at h1
  · cases dv; exact ⟨_, rfl, by rw [if_pos rfl]; exact lb G H1 σ ρ1 L _ _ ok1 s1.drop h1 q⟩
  · cases dv; exact ⟨_, rfl, by rw [if_neg Bool.false_ne_true]; exact q _ H1 ρ1 .un _ ok1 (s1.drop.scal (.bl _)) h1⟩
  · exact h1.elim
theorem ex_or {rest : List Expr} (ha : PEx X a wa) (hb : PEx X (.BoolOp .Or (b :: rest) pos) wb) : PEx X (.BoolOp .Or (a :: b :: rest) pos) (wOr wa wb) := by
  obtain ⟨ta, pa, la⟩ := ha; obtain ⟨tb, pb, lb⟩ := hb
  refine ⟨_, pe_or pa pb, ?_⟩
  intro G H σ ρ L Q Qp ok s h q
  refine la G H σ ρ L _ _ ok s h fun v H1 ρ1 k d ok1 s1 h1 => ?_
  have dv := s1.dp
  unfold boo at h1
  split at h1
  · cases dv; exact ⟨_, rfl, by rw [if_pos rfl]; exact q _ H1 ρ1 .un _ ok1 (s1.drop.scal (.bl _)) h1⟩
  · cases dv; exact ⟨_, rfl, by rw [if_neg Bool.false_ne_true]; exact lb G H1 σ ρ1 L _ _ ok1 s1.drop h1 q⟩
  · exact h1.elim
def wNot (w : WE) : WE := fun ρ Q => w ρ fun ρ1 _ d => match d with
  | .bool b => Q ρ1 .un (.bool (!b))
  | _ => False
theorem ex_not (h : PEx X a wa) : PEx X (.UnaryOp .Not a pos) (wNot wa) := by
  obtain ⟨t, p, l⟩ := h
  refine ⟨_, pe_not p, ?_⟩
  intro G H σ ρ L Q Qp ok s h q
  refine l G H σ ρ L _ _ ok s h fun v H1 ρ1 k d ok1 s1 h1 => ?_
  have dv := s1.dp
  split at h1
  · cases dv; exact ⟨_, rfl, q _ H1 ρ1 .un _ ok1 (s1.drop.scal (.bl _)) h1⟩
  · exact h1.elim
def wNeg (w : WE) : WE := fun ρ Q => w ρ fun ρ1 _ d => match d with
  | .int b => Q ρ1 .un (.int (-b))
  | _ => False
theorem ex_neg (h : PEx X a wa) : PEx X (.UnaryOp .USub a pos) (wNeg wa) := by
  obtain ⟨t, p, l⟩ := h
  refine ⟨_, pe_un un_neg p, ?_⟩
  intro G H σ ρ L Q Qp ok s h q
  refine l G H σ ρ L _ _ ok s h fun v H1 ρ1 k d ok1 s1 h1 => ?_
  have dv := s1.dp
  split at h1
  · cases dv; exact ⟨_, rfl, q _ H1 ρ1 .un _ ok1 (s1.drop.scal (.int _)) h1⟩
  · exact h1.elim
def wIf (w : WT) (wa wb : WE) : WE := fun ρ Q => w ρ fun ρ1 b => if b = true then wa ρ1 Q else wb ρ1 Q
theorem ex_if (hc : PTx X c wt) (ha : PEx X a wa) (hb : PEx X b wb) : PEx X (.IfExp c a b pos) (wIf wt wa wb) := by
  obtain ⟨tc, pc, lc⟩ := hc; obtain ⟨ta, pa, la⟩ := ha; obtain ⟨tb, pb, lb⟩ := hb
  refine ⟨_, pe_ifExp pc pa pb, ?_⟩
  intro G H σ ρ L Q Qp ok s h q
  refine lc G H σ ρ L _ _ ok s h fun c H1 ρ1 ok1 s1 h1 => ?_
  cases c with
  | true => rw [if_pos rfl] at h1 ⊢; exact la G H1 σ ρ1 L _ _ ok1 s1 h1 q
  | false => rw [if_neg Bool.false_ne_true] at h1 ⊢; exact lb G H1 σ ρ1 L _ _ ok1 s1 h1 q

/-! ### subscripts -/
theorem dpAll_get {K : PySem.W.Frag} {H : Hp} : ∀ {vs : List V} {ds : List PyData}, DpAll K H vs ds → ∀ {j : Nat} {d : PyData}, ds[j]? = some d → ∃ v, vs[j]? = some v ∧ Dp K H v d
  | _, _, .nil, j, d, h => by simp at h
  | _, _, .cons r s, 0, d, h => by simp at h; subst h; exact ⟨_, rfl, r⟩
  | _, _, .cons r s, j + 1, d, h => by
    obtain ⟨v, e, q⟩ := dpAll_get s (j := j) (d := d) (by simpa using h)
    exact ⟨v, by simpa using e, q⟩
theorem rxAll_get {K : PySem.W.Frag} {H : Hp} : ∀ {vs : List V} {ds : List PyData} {F : List Addr}, RxAll K H vs ds F → ∀ {j : Nat} {d : PyData}, ds[j]? = some d → ∃ v F', vs[j]? = some v ∧ Rx K H v d F' ∧ F'.Sublist F
  | _, _, _, .nil, j, d, h => by simp at h
  | _, _, _, .cons r s, 0, d, h => by simp at h; subst h; exact ⟨_, _, rfl, r, List.sublist_append_left _ _⟩
  | _, _, _, .cons r s, j + 1, d, h => by
    obtain ⟨v, F', e, q, sl⟩ := rxAll_get s (j := j) (d := d) (by simpa using h)
    exact ⟨v, F', by simpa using e, q, sl.trans (List.sublist_append_right _ _)⟩
theorem atI_len {α β : Type} {xs : List α} {ys : List β} (h : xs.length = ys.length) {i : Int} {y : β} (e : atI ys i = some y) : ∃ j : Nat, ys[j]? = some y ∧ ∀ x, xs[j]? = some x → atI xs i = some x := by
  unfold atI at e ⊢
  rw [h]
  cases q : ixN ys.length i with
  | none => rw [q] at e; cases e
  | some j => rw [q] at e; exact ⟨j, e, fun x hx => hx⟩
/-- the kind of a part -/
def kp (k : Kd) (d : PyData) : Kd := if flat d then .un else match k with
  | .rt => .br
  | .io => .br
  | k => k
theorem St0.rtBr {K : PySem.W.Frag} {H : Hp} {G : Gh} {L : List Cel} {v : V} {d : PyData} (s : St0 K H G (⟨v, .rt, d⟩ :: L)) : St0 K H G (⟨v, .br, d⟩ :: L) := (s.look.perm (.swap _ _ _)).drop
theorem St0.ioBr {K : PySem.W.Frag} {H : Hp} {G : Gh} {L : List Cel} {v : V} {d : PyData} (s : St0 K H G (⟨v, .io, d⟩ :: L)) : St0 K H G (⟨v, .br, d⟩ :: L) := by
  have dp := s.rx (fun e => by cases e)
  obtain ⟨E, s⟩ := s
  have ex := s.ex
  have nd := s.nd
  cases id ex with
  | @io _ _ F _ E' q r e' =>
    have hsub : ∀ b, b ∈ E' → b ∈ F ++ E' := fun b hb => List.mem_append_right _ hb
    refine ⟨E', .br e', (List.nodup_append.mp nd).2.1, fun p hp => s.nw p (hsub p hp), s.sm.trans (hide_mono hsub), s.gr, fun c hc => ?_⟩
    rcases List.mem_cons.mp hc with rfl | hc
    · exact dp
    · exact (s.sn c (List.mem_cons_of_mem _ hc)).mono hsub
inductive Tg {α : Type} (a : α) : Type where
  | mk
/-- (t keeps simp from going into K) -/
def wAt (ds : List PyData) (i : Int) (K : PyData → Prop) (_ : Tg K) : Prop := match atI ds i with
  | some d => K d
  | none => False
def wIx : WO2 := fun k x _ y Q => match x, y with
  | .list ds, .int i => wAt ds i (fun d => Q (kp k d) d) .mk
  | .tuple ds, .int i => wAt ds i (fun d => Q (kp k d) d) .mk
  | .str z, .int i => z.length ≤ sizeLine ∧ (match atI z.cps.toList i with | some c => Q .un (.str ⟨#[c]⟩) | none => False)
  | _, _ => False
theorem St0.kp {K : PySem.W.Frag} {H : Hp} {G : Gh} {L : List Cel} {u : V} {k : Kd} {e : PyData} (s : St0 K H G (⟨u, k, e⟩ :: L)) : St0 K H G (⟨u, kp k e, e⟩ :: L) := by
  unfold PL.kp
  split
  · rename_i f; exact s.flatUn f
  · cases k <;> first | exact s | exact s.rtBr | exact s.ioBr
/-- a part of any value but a borrowed own one stays what the whole was -/
theorem St0.item0 {K : PySem.W.Frag} {H : Hp} {G : Gh} {L : List Cel} {p : Addr} {k : Kd} {ds : List PyData} {i : Int} {d : PyData} (tup : Bool) (s : St0 K H G (⟨.ref p, k, if tup then .tuple ds else .list ds⟩ :: L)) (e : atI ds i = some d) (nrt : k ≠ .rt) (nio : k ≠ .io) :
    ∃ xs u, (if tup then SqT K H p xs else SqL K H p xs) ∧ atI xs i = some u ∧ St0 K H G (⟨u, PL.kp k d, d⟩ :: L) := by
  suffices h : ∃ xs u, (if tup then SqT K H p xs else SqL K H p xs) ∧ atI xs i = some u ∧ St0 K H G (⟨u, k, d⟩ :: L) by
    obtain ⟨xs, u, h1, h2, h3⟩ := h
    exact ⟨xs, u, h1, h2, h3.kp⟩
  have two : ∀ {H1 : Hp}, Dp K H1 (.ref p) (if tup then .tuple ds else .list ds) → ∃ xs, (if tup then SqT K H1 p xs else SqL K H1 p xs) ∧ DpAll K H1 xs ds := by
    intro H1 h
    cases tup with
    | true => simp only [if_true] at h ⊢; cases h with | tup hs ha => exact ⟨_, hs, ha⟩
    | false => simp only [if_neg Bool.false_ne_true] at h ⊢; cases h with | lst hs ha => exact ⟨_, hs, ha⟩
  have twx : ∀ {H1 : Hp} {F : List Addr}, Rx K H1 (.ref p) (if tup then .tuple ds else .list ds) F → ∃ xs F', (if tup then SqT K H1 p xs else SqL K H1 p xs) ∧ RxAll K H1 xs ds F' ∧ F'.Sublist F := by
    intro H1 F h
    cases tup with
    | true => simp only [if_true] at h ⊢; cases h with | tup hs ha => exact ⟨_, _, hs, ha, .refl _⟩
    | false => simp only [if_neg Bool.false_ne_true] at h ⊢; cases h with | lst hs ha => exact ⟨_, _, SqL.of hs, ha, List.sublist_cons_self _ _⟩
  have up : ∀ {H1 H2 : Hp} {xs : List V}, Same H1 H2 → (if tup then SqT K H1 p xs else SqL K H1 p xs) → (if tup then SqT K H2 p xs else SqL K H2 p xs) := by
    intro H1 H2 xs sm h
    cases tup with
    | true => exact sqT_same sm h
    | false => exact sm.seq h
  obtain ⟨E, s⟩ := s
  have z := s.sn _ List.mem_cons_self
  cases k with
  | un =>
    have ex := s.ex
    have nd := s.nd
    cases id ex with
    | @un _ _ F _ E' r e' =>
      obtain ⟨xs, F', h1, ha, sl⟩ := twx r
      obtain ⟨j, hj, hx⟩ := atI_len (rxAll_len ha) e
      obtain ⟨u, F2, hu, ru, sl2⟩ := rxAll_get ha hj
      refine ⟨xs, u, h1, hx u hu, F2 ++ E', s.mono (.un ru e') ?_ ?_ ?_⟩
      · exact ((sl2.trans sl).append_right E').nodup nd
      · intro b hb
        rcases List.mem_append.mp hb with hb | hb
        · exact List.mem_append_left _ ((sl2.trans sl).subset hb)
        · exact List.mem_append_right _ hb
      · intro c hc
        rcases List.mem_cons.mp hc with rfl | hc
        · exact .inr rfl
        · exact .inl (List.mem_cons_of_mem _ hc)
  | fr =>
    have ex : Excl K H G.f L E := by cases s.ex with | fr q => exact q
    obtain ⟨F, z⟩ := z
    obtain ⟨xs, F', h1, ha, sl⟩ := twx z
    obtain ⟨j, hj, hx⟩ := atI_len (rxAll_len ha) e
    obtain ⟨u, F2, hu, ru, sl2⟩ := rxAll_get ha hj
    refine ⟨xs, u, up hide_same h1, hx u hu, E, .fr ex, s.nd, s.nw, s.sm, s.gr, fun c hc => ?_⟩
    rcases List.mem_cons.mp hc with rfl | hc
    · exact ⟨F2, ru⟩
    · exact s.sn c (List.mem_cons_of_mem _ hc)
  | br =>
    have ex : Excl K H G.f L E := by cases s.ex with | br q => exact q
    obtain ⟨F, z⟩ := z
    obtain ⟨xs, F', h1, ha, sl⟩ := twx z
    obtain ⟨j, hj, hx⟩ := atI_len (rxAll_len ha) e
    obtain ⟨u, F2, hu, ru, sl2⟩ := rxAll_get ha hj
    refine ⟨xs, u, h1, hx u hu, E, .br ex, s.nd, s.nw, s.sm, s.gr, fun c hc => ?_⟩
    rcases List.mem_cons.mp hc with rfl | hc
    · exact ⟨F2, ru⟩
    · exact s.sn c (List.mem_cons_of_mem _ hc)
  | ro =>
    have ex : Excl K H G.f L E := by cases s.ex with | ro q => exact q
    obtain ⟨xs, h1, ha⟩ := two z
    obtain ⟨j, hj, hx⟩ := atI_len (dpAll_len ha) e
    obtain ⟨u, hu, ru⟩ := dpAll_get ha hj
    refine ⟨xs, u, up hide_same h1, hx u hu, E, .ro ex, s.nd, s.nw, s.sm, s.gr, fun c hc => ?_⟩
    rcases List.mem_cons.mp hc with rfl | hc
    · exact ru
    · exact s.sn c (List.mem_cons_of_mem _ hc)
  | rt => exact absurd rfl nrt
  | io => exact absurd rfl nio
theorem St0.item {K : PySem.W.Frag} {H : Hp} {G : Gh} {L : List Cel} {p : Addr} {k : Kd} {ds : List PyData} {i : Int} {d : PyData} (tup : Bool) (s : St0 K H G (⟨.ref p, k, if tup then .tuple ds else .list ds⟩ :: L)) (e : atI ds i = some d) :
    ∃ xs u, (if tup then SqT K H p xs else SqL K H p xs) ∧ atI xs i = some u ∧ St0 K H G (⟨u, PL.kp k d, d⟩ :: L) := by
  by_cases h : k = .rt
  · subst h
    have e2 : PL.kp .rt d = PL.kp .br d := rfl
    rw [e2]
    exact St0.item0 tup s.rtBr e (fun z => by cases z) (fun z => by cases z)
  · by_cases h' : k = .io
    · subst h'
      have e2 : PL.kp .io d = PL.kp .br d := rfl
      rw [e2]
      exact St0.item0 tup s.ioBr e (fun z => by cases z) (fun z => by cases z)
    · exact St0.item0 tup s e h h'
theorem lift_ix {K : PySem.W.Frag} : LiftO K (rIx K) wIx := by
  intro G H L k1 k2 x y v u Q Qp s hw q
  have hy := s.dp
  have hx := s.drop.dp
  unfold wIx at hw
  split at hw
  · rename_i ds i
    cases hy
    obtain ⟨p, rfl⟩ := dp_ref_l hx
    unfold wAt at hw
    split at hw
    · rename_i d e
      obtain ⟨xs, u, h1, h2, h3⟩ := St0.item false s.drop e
      exact .inl ⟨p, xs, i, u, rfl, rfl, h1, h2, q u H _ d h3 hw⟩
    · exact hw.elim
  · rename_i ds i
    cases hy
    obtain ⟨p, rfl⟩ := dp_ref_t hx
    unfold wAt at hw
    split at hw
    · rename_i d e
      obtain ⟨xs, u, h1, h2, h3⟩ := St0.item true s.drop e
      exact .inr (.inl ⟨p, xs, i, u, rfl, rfl, h1, h2, q u H _ d h3 hw⟩)
    · exact hw.elim
  · rename_i z i
    cases hy
    cases hx
    obtain ⟨hz, hw⟩ := hw
    split at hw
    · rename_i c e
      exact .inr (.inr ⟨z, i, c, rfl, rfl, hz, e, q _ H .un _ (s.drop.drop.scal (.str _)) hw⟩)
    · exact hw.elim
  · exact hw.elim
theorem ex_ix (ha : PEx X a wa) (hb : PEx X b wb) (hs : PlainIx b) : PEx X (.Subscript a b pos) (w2 wIx wa wb) := by
  obtain ⟨ta, pa, la⟩ := ha; obtain ⟨tb, pb, lb⟩ := hb
  exact ⟨_, pe_ix ix_seq pa pb hs, lift_2 lift_ix la lb⟩
end
end PL
namespace PL
open PySem PySem.Spec L2

section
variable {X : Cx} {e a b c : Expr} {es : List Expr} {pos : Pos} {wa wb wc : WE} {was : WA} {ta tb tc : TE}
/-! ### slices -/
abbrev WP := Rho → (Rho → Option Int → Prop) → Prop
def LiftP (K : PySem.W.Frag) (t : TO) (w : WP) : Prop := ∀ (G : Gh) (H : Hp) (σ : St) (ρ : Rho) (L : List Cel) (Q : Option Int → Hp → Prop) (Qp : Rho → Option Int → Prop), EnvOk σ ρ → St0 K H G (lv σ ρ ++ L) → w ρ Qp →
  (∀ o H' ρ', EnvOk σ ρ' → St0 K H' G (lv σ ρ' ++ L) → Qp ρ' o → Q o H') → t σ H Q
def POx (X : Cx) (e : Option Expr) (w : WP) : Prop := ∃ t, PO X e t ∧ LiftP X.K t w
def wNoP : WP := fun ρ Q => Q ρ none
def wSoP (w : WE) : WP := fun ρ Q => w ρ fun ρ1 _ d => match d with
  | .int i => Q ρ1 (some i)
  | _ => False
theorem ox_none : POx X none wNoP := ⟨_, po_none, fun G H σ ρ L Q Qp ok s h q => q none H ρ ok s h⟩
theorem ox_some (h : PEx X e wa) : POx X (some e) (wSoP wa) := by
  obtain ⟨t, p, l⟩ := h
  refine ⟨_, po_some p, ?_⟩
  intro G H σ ρ L Q Qp ok s h q
  refine l G H σ ρ L _ _ ok s h fun v H1 ρ1 k d ok1 s1 h1 => ?_
  have dv := s1.dp
  split at h1
  · cases dv; exact ⟨_, rfl, q _ H1 ρ1 ok1 s1.drop h1⟩
  · exact h1.elim
def cutD (ds : List PyData) (lo hi : Option Int) : List PyData := (ds.drop (HT.sIx ds.length 0 lo)).take (HT.sIx ds.length ds.length hi - HT.sIx ds.length 0 lo)
def wSlc (k : Kd) (x : PyData) (lo hi : Option Int) (Q : Kd → PyData → Prop) : Prop := match x with
  | .list ds => if flats ds = true then Q .un (.list (cutD ds lo hi)) else k ≠ .br ∧ k ≠ .ro ∧ k ≠ .io ∧ Q .fr (.list (cutD ds lo hi))
  | .str z => z.length ≤ sizeLine ∧ Q .un (.str (cutS z lo hi))
  | .tuple ds => (flats ds = true ∨ flats (cutD ds lo hi) = true) ∧ ¬ (HT.sIx ds.length 0 lo = 0 ∧ HT.sIx ds.length ds.length hi = ds.length) ∧ Q .un (.tuple (cutD ds lo hi))
  | _ => False
def wSl (we : WE) (wl wh : WP) : WE := fun ρ Q => we ρ fun ρ1 k x => wl ρ1 fun ρ2 lo => wh ρ2 fun ρ3 hi => wSlc k x lo hi fun k' d => Q ρ3 k' d
theorem rxAll_drop {K : PySem.W.Frag} {H : Hp} : ∀ {vs : List V} {ds : List PyData} {F : List Addr} (n : Nat), RxAll K H vs ds F → ∃ F', RxAll K H (vs.drop n) (ds.drop n) F'
  | _, _, _, 0, r => ⟨_, r⟩
  | _, _, _, _ + 1, .nil => ⟨_, .nil⟩
  | _, _, _, n + 1, .cons _ s => rxAll_drop n s
theorem rxAll_take {K : PySem.W.Frag} {H : Hp} : ∀ {vs : List V} {ds : List PyData} {F : List Addr} (n : Nat), RxAll K H vs ds F → ∃ F', RxAll K H (vs.take n) (ds.take n) F'
  | _, _, _, 0, _ => ⟨_, .nil⟩
  | _, _, _, _ + 1, .nil => ⟨_, .nil⟩
  | _, _, _, n + 1, .cons r s => by
    obtain ⟨F', h⟩ := rxAll_take n s
    exact ⟨_, .cons r h⟩
theorem rxAll_cut {K : PySem.W.Frag} {H : Hp} {vs : List V} {ds : List PyData} {F : List Addr} (r : RxAll K H vs ds F) (lo hi : Option Int) : ∃ F', RxAll K H (cutV vs lo hi) (cutD ds lo hi) F' := by
  unfold cutV cutD
  rw [rxAll_len r]
  obtain ⟨F1, r1⟩ := rxAll_drop (HT.sIx ds.length 0 lo) r
  exact rxAll_take _ r1
theorem dpAll_drop {K : PySem.W.Frag} {H : Hp} : ∀ {vs : List V} {ds : List PyData} (n : Nat), DpAll K H vs ds → DpAll K H (vs.drop n) (ds.drop n)
  | _, _, 0, r => r
  | _, _, _ + 1, .nil => .nil
  | _, _, n + 1, .cons _ s => dpAll_drop n s
theorem dpAll_take {K : PySem.W.Frag} {H : Hp} : ∀ {vs : List V} {ds : List PyData} (n : Nat), DpAll K H vs ds → DpAll K H (vs.take n) (ds.take n)
  | _, _, 0, _ => .nil
  | _, _, _ + 1, .nil => .nil
  | _, _, n + 1, .cons r s => .cons r (dpAll_take n s)
theorem dpAll_cut {K : PySem.W.Frag} {H : Hp} {vs : List V} {ds : List PyData} (r : DpAll K H vs ds) (lo hi : Option Int) : DpAll K H (cutV vs lo hi) (cutD ds lo hi) := by
  unfold cutV cutD
  rw [dpAll_len r]
  exact dpAll_take _ (dpAll_drop _ r)
theorem flats_drop : ∀ {ds : List PyData} (n : Nat), flats ds = true → flats (ds.drop n) = true
  | _, 0, h => h
  | [], _ + 1, h => h
  | d :: ds, n + 1, h => by
    simp only [flats, Bool.and_eq_true] at h
    exact flats_drop n h.2
theorem flats_take : ∀ {ds : List PyData} (n : Nat), flats ds = true → flats (ds.take n) = true
  | _, 0, h => rfl
  | [], _ + 1, h => rfl
  | d :: ds, n + 1, h => by
    simp only [flats, Bool.and_eq_true] at h
    simp only [List.take_succ_cons, flats, Bool.and_eq_true]
    exact ⟨h.1, flats_take n h.2⟩
theorem flats_cut {ds : List PyData} (lo hi : Option Int) (h : flats ds = true) : flats (cutD ds lo hi) = true := flats_take _ (flats_drop _ h)
theorem lift_sl {K : PySem.W.Frag} {tl th : TO} {wl wh : WP} (la : LiftE K ta wa) (ll : LiftP K tl wl) (lh : LiftP K th wh) : LiftE K (tSl (fun x lo hi H Q => (rSlL K x lo hi H Q ∨ rSlS x lo hi H Q) ∨ rSlT K x lo hi H Q) ta tl th) (wSl wa wl wh) := by
  intro G H σ ρ L Q Qp ok s h q
  refine la G H σ ρ L _ _ ok s h fun v H1 ρ1 k x ok1 s1 h1 => ?_
  refine ll G H1 σ ρ1 (⟨v, k, x⟩ :: L) _ _ ok1 (s1.perm List.perm_middle.symm) h1 fun lo H2 ρ2 ok2 s2 h2 => ?_
  refine lh G H2 σ ρ2 _ _ _ ok2 s2 h2 fun hi H3 ρ3 ok3 s3 h3 => ?_
  have s4 : St0 K H3 G (⟨v, k, x⟩ :: (lv σ ρ3 ++ L)) := s3.perm List.perm_middle
  have dv := s4.dp
  unfold wSlc at h3
  split at h3
  · rename_i ds
    obtain ⟨p, rfl⟩ := dp_ref_l dv
    split at h3
    · rename_i f
      cases dv with
      | lst hs ha =>
        refine .inl (.inl ⟨p, _, rfl, hs, fun l hl => ?_⟩)
        have r := dpAll_flat ha f
        obtain ⟨F', rc⟩ := rxAll_cut r lo hi
        exact q _ _ ρ3 .un _ ok3 (s4.drop.newUn (rxAll_flat rc (flats_cut lo hi f)) hl) h3
    · obtain ⟨m1, m2, m3, h3⟩ := h3
      have s5 := s4.frz2 m1 m2 m3
      obtain ⟨E, st⟩ := s5
      obtain ⟨F1, q1⟩ := st.sn _ List.mem_cons_self
      cases q1 with
      | @lst _ ws _ F1' hl1 rb1 =>
        refine .inl (.inl ⟨p, ws, rfl, SqL.of (hide_same _ _ hl1), fun l hl => ?_⟩)
        have ex := st.ex
        cases ex with
        | fr ex =>
          have st2 : Sta K H3 G (lv σ ρ3 ++ L) E := ⟨ex, st.nd, st.nw, st.sm, st.gr, fun c hc => st.sn c (List.mem_cons_of_mem _ hc)⟩
          obtain ⟨F', rc⟩ := rxAll_cut rb1 lo hi
          exact q _ _ ρ3 .fr _ ok3 (St0.newFr st2 rc hl) h3
  · cases dv
    exact .inl (.inr ⟨_, rfl, h3.1, q _ H3 ρ3 .un _ ok3 (s4.drop.scal (.str _)) h3.2⟩)
  · obtain ⟨f, nw, h3⟩ := h3
    obtain ⟨p, rfl⟩ := dp_ref_t dv
    cases dv with
    | tup hs ha =>
      have rl := dpAll_len ha
      refine .inr ⟨p, _, rfl, hs, by rw [rl]; exact nw, fun l hl => ?_⟩
      have rc := dpAll_flat (dpAll_cut ha lo hi) (f.elim (flats_cut lo hi) id)
      exact q _ _ ρ3 .un _ ok3 (s4.drop.fresh (F := []) (same_upd hl) (.tup (SqT.of upd_same) (rc.same (same_upd hl))) .nil (by simp)) h3
  · exact h3.elim
theorem ex_sl {lo hi : Option Expr} {wl wh : WP} {p2 : Pos} (ha : PEx X a wa) (hl : POx X lo wl) (hh : POx X hi wh) : PEx X (.Subscript a (.Slice lo hi none p2) pos) (wSl wa wl wh) := by
  obtain ⟨ta, pa, la⟩ := ha; obtain ⟨tl, pl, ll⟩ := hl; obtain ⟨th, ph, lh⟩ := hh
  exact ⟨_, pe_slice ((sl_list.or sl_str).or sl_tup) pa pl ph, lift_sl la ll lh⟩

/-! ### calls of built-ins -/
abbrev WC := List Sl → (Kd → PyData → Prop) → Prop
def LiftC (K : PySem.W.Frag) (r : List V → Hp → VK → Prop) (wc : WC) : Prop := ∀ (G : Gh) (H : Hp) (L : List Cel) (vs : List V) (ds : List Sl) (cs : List Cel) (Q : VK) (Qp : Kd → PyData → Prop), Cels vs ds cs → St0 K H G (cs ++ L) → wc ds Qp →
  (∀ z H' k d, St0 K H' G (⟨z, k, d⟩ :: L) → Qp k d → Q z H') → r vs H Q
def wCB (wc : WC) (was : WA) : WE := fun ρ Q => was ρ fun ρ1 ds => wc ds fun k d => Q ρ1 k d
theorem lift_cb {K : PySem.W.Frag} {r : List V → Hp → VK → Prop} {wc : WC} {t : TA} (hr : LiftC K r wc) (l : LiftA K t was) : LiftE K (tCB r t) (wCB wc was) := by
  intro G H σ ρ L Q Qp ok s h q
  refine l G H σ ρ L _ _ ok s h fun vs H1 ρ1 ds cs ok1 hc s1 h1 => ?_
  exact hr G H1 _ vs ds cs Q _ hc s1 h1 fun z H2 k d s2 h2 => q z H2 ρ1 k d ok1 s2 h2
theorem LiftC.or {K : PySem.W.Frag} {r r' : List V → Hp → VK → Prop} {wc wc' : WC} (h : LiftC K r wc) (h' : LiftC K r' wc') : LiftC K (fun xs H Q => r xs H Q ∨ r' xs H Q) (fun ds Q => wc ds Q ∨ wc' ds Q) := by
  intro G H L vs ds cs Q Qp hc s hw q
  rcases hw with hw | hw
  · exact .inl (h G H L vs ds cs Q Qp hc s hw q)
  · exact .inr (h' G H L vs ds cs Q Qp hc s hw q)
theorem LiftC.imp {K : PySem.W.Frag} {r : List V → Hp → VK → Prop} {wc wc' : WC} (h : LiftC K r wc) (i : ∀ ds Q, wc' ds Q → wc ds Q) : LiftC K r wc' := fun G H L vs ds cs Q Qp hc s hw q => h G H L vs ds cs Q Qp hc s (i _ _ hw) q
/-- one argument, by its data alone; a result without lists -/
theorem liftC1 {K : PySem.W.Frag} {r : List V → Hp → VK → Prop} {w1 : PyData → (PyData → Prop) → Prop}
    (h : ∀ (H : Hp) (x : PyData) (v : V) (Q : VK) (Qp : PyData → Prop), Dp K H v x → w1 x Qp → (∀ z d, Rx K H z d [] → Qp d → Q z H) → r [v] H Q) : LiftC K r (fun ds Q => match ds with
      | [(_, x)] => w1 x (Q .un)
      | _ => False) := by
  intro G H L vs ds cs Q Qp hc s hw q
  split at hw
  · cases hc with
    | cons hc =>
      cases hc
      exact h H _ _ Q (Qp .un) s.dp hw fun z d rz hq => q z H .un d (s.drop.scal rz) hq
  · exact hw.elim
def wLen (x : PyData) (Q : PyData → Prop) : Prop := match x with
  | .list ds => Q (.int ds.length)
  | .tuple ds => Q (.int ds.length)
  | .str z => z.length ≤ sizeLine ∧ Q (.int z.length)
  | _ => False
def cLen : WC := fun ds Q => match ds with
  | [(_, x)] => wLen x (Q .un)
  | _ => False
theorem lift_len {K : PySem.W.Frag} : LiftC K (fun xs H Q => ∃ x n, xs = [x] ∧ LenV K x H n ∧ Q (.int n) H) cLen := by
  refine liftC1 fun H x v Q Qp dv hw q => ?_
  unfold wLen at hw
  split at hw
  · cases dv with
    | lst hs ha => exact ⟨_, _, rfl, .inl ⟨_, hs, rfl⟩, q _ _ (.int _) (by rw [dpAll_len ha]; exact hw)⟩
  · cases dv with
    | tup hs ha => exact ⟨_, _, rfl, .inr ⟨_, hs, rfl⟩, q _ _ (.int _) (by rw [dpAll_len ha]; exact hw)⟩
  · cases dv
    exact ⟨_, _, rfl, ⟨hw.1, rfl⟩, q _ _ (.int _) hw.2⟩
  · exact hw.elim
/-- what a built-in name gives: its value, its rule, its word -/
structure BltOk (X : Cx) (x : Str) (wc : WC) : Prop where
  ex : (∃ (id : String) (r : List V → Hp → VK → Prop), bootBuiltins x = some (.builtin id) ∧ CallR X (.builtin id) r ∧ LiftC X.K r wc) ∨ ∃ (T : String) (r : List V → Hp → VK → Prop), bootBuiltins x = some (.type T) ∧ CallR X (.type T) r ∧ LiftC X.K r wc
theorem ex_cb {x : Str} {p : Pos} {wc : WC} (hb : BltOk X x wc) (hg : Gl X x) (hm : X.mg x = none) (ha : PAx X (e :: es) was) (hn : x ≠ "__name__") (hdb : (x == ("__debug__" : Str)) = false)
    (he : starEach (e :: es) X.env = (false, eval e X.env) :: starEach es X.env) (hpl : (backTo pos (starEach es X.env)).any (·.1) = false) : PEx X (.Call (.Name x p) (e :: es) [] pos) (wCB wc was) := by
  obtain ⟨t, pa, l⟩ := ha
  rcases hb.ex with ⟨id, r, hv, hc, hl⟩ | ⟨T, r, hv, hc, hl⟩
  · exact ⟨_, pe_callB hc hg hm hv pa hn hdb he hpl, lift_cb hl l⟩
  · exact ⟨_, pe_callTy hc hg hm hv pa hn hdb he hpl, lift_cb hl l⟩
theorem blt_len : BltOk X "len" cLen := ⟨.inl ⟨_, _, PySem.boot_len, call_len, lift_len⟩⟩
/-- max, min: two ints, or a list of ints -/
def ints? : List PyData → Option (List Int)
  | [] => some []
  | .int i :: ds => (ints? ds).map (i :: ·)
  | _ => none
theorem dpAll_ints {K : PySem.W.Frag} {H : Hp} : ∀ {vs : List V} {ds : List PyData} {ns : List Int}, DpAll K H vs ds → ints? ds = some ns → vs = ns.map V.int
  | _, [], _, .nil, h => by
    have e : [] = _ := Option.some.inj h
    subst e; rfl
  | _, d :: ds, ns, .cons r s, h => by
    cases r with
    | int i =>
      have h' : (ints? ds).map (i :: ·) = some ns := h
      cases q : ints? ds with
      | none => rw [q] at h'; cases h'
      | some ms =>
        rw [q] at h'
        have e : i :: ms = ns := Option.some.inj h'
        rw [← e, dpAll_ints s q]; rfl
    | _ => cases h
def cMax : WC := fun ds Q => match ds with
  | [(_, .int i), (_, .int j)] => Q .un (.int (if j > i then j else i))
  | [(_, .int i), (_, .int j), (_, .int k)] => Q .un (.int (if k > (if j > i then j else i) then k else (if j > i then j else i)))
  | [(_, .list ds)] => ∃ ns, ints? ds = some ns ∧ 0 < ns.length ∧ ∀ m, m ∈ ns → (∀ y, y ∈ ns → y ≤ m) → Q .un (.int m)
  | _ => False
def cMin : WC := fun ds Q => match ds with
  | [(_, .int i), (_, .int j)] => Q .un (.int (if j < i then j else i))
  | [(_, .list ds)] => ∃ ns, ints? ds = some ns ∧ 0 < ns.length ∧ ∀ m, m ∈ ns → (∀ y, y ∈ ns → m ≤ y) → Q .un (.int m)
  | _ => False
def rMx3 : List V → Hp → VK → Prop := fun xs H Q => ∃ i j k, xs = [.int i, .int j, .int k] ∧ Q (.int (if k > (if j > i then j else i) then k else (if j > i then j else i))) H
theorem mx2_int (i j : Int) : nuMax2 (.int i) (.int j) = some (.int (if j > i then j else i)) := by
  show Option.map _ (some (decide (i < j))) = _
  rw [Option.map_some]
  by_cases h : i < j
  · rw [if_pos h, if_pos (decide_eq_true h)]
  · rw [if_neg h, if_neg (fun z => h (of_decide_eq_true z))]
theorem call_mx3 {X : Cx} (hc : X.calm = true) : CallR X (.builtin "max") rMx3 := fun pins s σ H xs us Q I r ⟨i, j, k, e, q⟩ =>
  call_max3Nu hc pins s σ H xs us Q I r ⟨.int i, .int j, .int k, _, e, by
    show (nuMax2 (.int i) (.int j)).bind (fun m => nuMax2 m (.int k)) = _
    rw [mx2_int]
    exact mx2_int _ _, q⟩
theorem lift_max {K : PySem.W.Frag} : LiftC K (fun xs H Q => ((∃ i j, xs = [.int i, .int j] ∧ Q (.int (if j > i then j else i)) H) ∨ rMax K xs H Q) ∨ rMx3 xs H Q) cMax := by
  intro G H L vs ds cs Q Qp hc s hw q
  unfold cMax at hw
  split at hw
  · cases hc with
    | cons hc =>
      cases hc with
      | cons hc =>
        cases hc
        have h1 := s.dp
        have h2 := s.drop.dp
        cases h1; cases h2
        exact .inl (.inl ⟨_, _, rfl, q _ H .un _ (s.drop.drop.scal (.int _)) hw⟩)
  · cases hc with
    | cons hc =>
      cases hc with
      | cons hc =>
        cases hc with
        | cons hc =>
          cases hc
          have h1 := s.dp
          have h2 := s.drop.dp
          have h3 := s.drop.drop.dp
          cases h1; cases h2; cases h3
          exact .inr ⟨_, _, _, rfl, q _ H .un _ (s.drop.drop.drop.scal (.int _)) hw⟩
  · cases hc with
    | cons hc =>
      cases hc
      have h1 := s.dp
      obtain ⟨ns, e, hl, hw⟩ := hw
      cases h1 with
      | lst hs ha =>
        rw [dpAll_ints ha e] at hs
        exact .inl (.inr ⟨_, ns, rfl, hs, hl, fun m h1 h2 => q _ H .un _ (s.drop.scal (.int _)) (hw m h1 h2)⟩)
  · exact hw.elim
theorem lift_min {K : PySem.W.Frag} : LiftC K (fun xs H Q => (∃ i j, xs = [.int i, .int j] ∧ Q (.int (if j < i then j else i)) H) ∨ rMin K xs H Q) cMin := by
  intro G H L vs ds cs Q Qp hc s hw q
  unfold cMin at hw
  split at hw
  · cases hc with
    | cons hc =>
      cases hc with
      | cons hc =>
        cases hc
        have h1 := s.dp
        have h2 := s.drop.dp
        cases h1; cases h2
        exact .inl ⟨_, _, rfl, q _ H .un _ (s.drop.drop.scal (.int _)) hw⟩
  · cases hc with
    | cons hc =>
      cases hc
      have h1 := s.dp
      obtain ⟨ns, e, hl, hw⟩ := hw
      cases h1 with
      | lst hs ha =>
        rw [dpAll_ints ha e] at hs
        exact .inr ⟨_, ns, rfl, hs, hl, fun m h1 h2 => q _ H .un _ (s.drop.scal (.int _)) (hw m h1 h2)⟩
  · exact hw.elim
theorem blt_max (hc : X.calm = true) : BltOk X "max" cMax := ⟨.inl ⟨"max", _, by decide +kernel, ((call_max2 hc).or (cr_max hc)).or (call_mx3 hc), lift_max⟩⟩
theorem blt_min (hc : X.calm = true) : BltOk X "min" cMin := ⟨.inl ⟨"min", _, by decide +kernel, (call_min2 hc).or (cr_min hc), lift_min⟩⟩
/-- list(x): a new list of the same things -/
def wItems (k : Kd) (ds : List PyData) (Q : Kd → PyData → Prop) : Prop := if flats ds = true then Q .un (.list ds) else k ≠ .br ∧ k ≠ .ro ∧ k ≠ .io ∧ Q .fr (.list ds)
def cList : WC := fun ds Q => match ds with
  | [(k, .list ds)] => wItems k ds Q
  | [(k, .tuple ds)] => wItems k ds Q
  | _ => False
theorem lift_list {K : PySem.W.Frag} : LiftC K (fun xs H Q => ∃ p ys, xs = [.ref p] ∧ (SqL K H p ys ∨ SqT K H p ys) ∧ ∀ l, H l = none → Q (.ref l) (upd H l (.lst ys))) cList := by
  have fin : ∀ {G : Gh} {H : Hp} {L : List Cel} {v : V} {k : Kd} {ds : List PyData} {Q : VK} {Qp : Kd → PyData → Prop} (tup : Bool), St0 K H G (⟨v, k, if tup then .tuple ds else .list ds⟩ :: L) → wItems k ds Qp → (∀ z H' k d, St0 K H' G (⟨z, k, d⟩ :: L) → Qp k d → Q z H') →
      ∃ p ys, v = .ref p ∧ (SqL K H p ys ∨ SqT K H p ys) ∧ ∀ l, H l = none → Q (.ref l) (upd H l (.lst ys)) := by
    intro G H L v k ds Q Qp tup s hw q
    have dv := s.dp
    unfold wItems at hw
    split at hw
    · rename_i f
      cases tup with
      | true =>
        simp only [if_true] at dv
        cases dv with
        | tup hs ha => exact ⟨_, _, rfl, .inr hs, fun l hl => q _ _ .un _ (s.drop.newUn (dpAll_flat ha f) hl) hw⟩
      | false =>
        simp only [if_neg Bool.false_ne_true] at dv
        cases dv with
        | lst hs ha => exact ⟨_, _, rfl, .inl hs, fun l hl => q _ _ .un _ (s.drop.newUn (dpAll_flat ha f) hl) hw⟩
    · obtain ⟨m1, m2, m3, hw⟩ := hw
      obtain ⟨E, st⟩ := s.frz2 m1 m2 m3
      obtain ⟨F1, q1⟩ := st.sn _ List.mem_cons_self
      have ex := st.ex
      cases ex with
      | fr ex =>
        have st2 : Sta K H G L E := ⟨ex, st.nd, st.nw, st.sm, st.gr, fun c hc => st.sn c (List.mem_cons_of_mem _ hc)⟩
        cases tup with
        | true =>
          simp only [if_true] at q1
          cases q1 with
          | tup hs ha => exact ⟨_, _, rfl, .inr (sqT_same hide_same hs), fun l hl => q _ _ .fr _ (St0.newFr st2 ha hl) hw⟩
        | false =>
          simp only [if_neg Bool.false_ne_true] at q1
          cases q1 with
          | lst hs ha => exact ⟨_, _, rfl, .inl (SqL.of (hide_same _ _ hs)), fun l hl => q _ _ .fr _ (St0.newFr st2 ha hl) hw⟩
  intro G H L vs ds cs Q Qp hc s hw q
  unfold cList at hw
  split at hw
  · cases hc with
    | cons hc =>
      cases hc
      obtain ⟨p, ys, e, h1, h2⟩ := fin false s hw q
      exact ⟨p, ys, by rw [e], h1, h2⟩
  · cases hc with
    | cons hc =>
      cases hc
      obtain ⟨p, ys, e, h1, h2⟩ := fin true s hw q
      exact ⟨p, ys, by rw [e], h1, h2⟩
  · exact hw.elim
theorem blt_list : BltOk X "list" cList := ⟨.inr ⟨"list", _, by decide +kernel, call_list_of, lift_list⟩⟩

/-! ### isinstance -/
def isi (T : Nat) (d : PyData) : Bool := match d, T with
  | .int _, 0 => true
  | .bool _, 0 => true
  | .bool _, 1 => true
  | .tuple _, 2 => true
  | .list _, 3 => true
  | .str _, 4 => true
  | _, _ => false
def tyN : PyData → String
  | .none => "NoneType"
  | .bool _ => "bool"
  | .int _ => "int"
  | .str _ => "str"
  | .list _ => "list"
  | .tuple _ => "tuple"
  | .dict _ => "dict"
def isOb : PyData → Bool
  | .dict _ => true
  | _ => false
theorem isi_kit {T : Nat} (h : T < 5) : ∀ d : PyData, kitB (tyN d) (isiT T) = some (isi T d) := by
  have k : ∀ T < 5, kitB "NoneType" (isiT T) = some false ∧ kitB "bool" (isiT T) = some (T == 0 || T == 1) ∧ kitB "int" (isiT T) = some (T == 0) ∧ kitB "str" (isiT T) = some (T == 4) ∧ kitB "list" (isiT T) = some (T == 3) ∧ kitB "tuple" (isiT T) = some (T == 2) ∧ kitB "dict" (isiT T) = some false := by decide +kernel
  obtain ⟨k1, k2, k3, k4, k5, k6, k7⟩ := k T h
  intro d
  have hT : T = 0 ∨ T = 1 ∨ T = 2 ∨ T = 3 ∨ T = 4 := by omega
  rcases hT with rfl | rfl | rfl | rfl | rfl <;> cases d <;> first | exact k1 | exact k2 | exact k3 | exact k4 | exact k5 | exact k6 | exact k7
theorem dp_ty {K : PySem.W.Frag} {H : Hp} {v : V} {d : PyData} (h : Dp K H v d) (n : isOb d = false) : TyX K H v (.type (tyN d)) := by
  cases h with
  | non => exact .base .non
  | bl b => exact .base (.bl b)
  | int i => exact .base (.int i)
  | str x => exact .base (.str x)
  | lst hs ha =>
    rcases hs with (h | ⟨o, h⟩) | ⟨o, its, n, h1, h2, _⟩
    · exact .base (.lst h)
    · exact .base (.frz h)
    · exact .kList h1 h2
  | tup hs ha =>
    rcases hs with (h | ⟨o, h⟩) | ⟨o, its, n, h1, h2, _⟩
    · exact .base (.tup h)
    · exact .fTuple h
    · exact .kTuple h1 h2
  | ob _ _ _ _ => cases n
  | ex _ _ => cases n
theorem dp_isi {K : PySem.W.Frag} {H : Hp} {v : V} {d : PyData} {T : Nat} (hT : T < 5) (h : Dp K H v d) : (∃ t, TyX K H v t ∧ PySem.W.kitOne K t (.type (isiT T)) = some (isi T d)) ∨
    ∃ a C, v = .ref a ∧ H a = some (XO a (.ref C) none) ∧ ExcC K C ∧ PySem.W.kitOne K (.ref C) (.type (isiT T)) = some (isi T d) := by
  cases e : isOb d with
  | false => exact .inl ⟨_, dp_ty h e, kit_ty (isi_kit hT d)⟩
  | true =>
    have hT' : T = 0 ∨ T = 1 ∨ T = 2 ∨ T = 3 ∨ T = 4 := by omega
    cases h <;> first | cases e | skip
    · rename_i C dx fs nm ns ds hs c hq ha
      refine .inl ⟨_, .base (.ins hs c.cl c.ha c.hn c.tk c.hm), (c.kit T hT).trans ?_⟩
      rcases hT' with rfl | rfl | rfl | rfl | rfl <;> rfl
    · rename_i a C nm hs c
      refine .inr ⟨_, _, rfl, hs, c.ec, (c.kit T hT).trans ?_⟩
      rcases hT' with rfl | rfl | rfl | rfl | rfl <;> rfl
def wIsi (T : Nat) (w : WE) : WE := fun ρ Q => w ρ fun ρ1 _ d => Q ρ1 .un (.bool (isi T d))
/-! ### isinstance of a kept error -/
section
variable {X : Cx}
def rKx (K : PySem.W.Frag) (D a : Addr) : List V → Hp → VK → Prop := fun xs H Q => H a = some (XO a (.ref D) none) ∧ ∃ (b : Bool),
  ((∃ (c : V) (u : Value), xs = [.ref a, c] ∧ ClsV c u ∧ PySem.W.kitOne K (.ref D) u = some b) ∨
   (∃ (tp : Addr) (cs : List V) (us : List Value), xs = [.ref a, .ref tp] ∧ H tp = some (.tup cs) ∧ Paired ClsV cs us ∧ PySem.W.kitAny K (.ref D) us = some b)) ∧ Q (.bl b) H
theorem call_kx {a D : Addr} (C : ExcC X.K D) : CallR X (.builtin "isinstance") (rKx X.K D a) := by
  intro pins s σ H xs us Q I r h
  obtain ⟨ha, b, h, q⟩ := h
  obtain ⟨⟨oe, vs, hget, hz, hv⟩, _, _⟩ := (show ObjOk X.prog X.w H s.heap a (XO a (.ref D) none) from I.hok a _ ha)
  have J : PySem.W.InstAt s.heap a oe D none := by
    obtain ⟨oc, od, oda, osl⟩ := oe
    obtain ⟨h1, h2⟩ := hz
    dsimp only at h1 h2 hv
    subst h1 h2 hv
    exact ⟨hget, rfl, rfl, trivial⟩
  have Z := PySem.W.handS_kitx_exc (x := a) (ox := oe) C.hg C.hk C.hs C.hd C.ha C.hn C.ht C.hm
  rcases h with ⟨c, u, rfl, k, e⟩ | ⟨tp, cs, ws, rfl, hT, k, e⟩
  · obtain ⟨u1, u2, rfl, r1, r2⟩ := vals2 r
    cases (show u1 = Value.ref a from r1)
    have e2 := k.eq r2
    subst e2
    exact PySem.W.kia_one Z I.kIn J e (fun z => nomatch z) fun tk => ⟨.bl b, H, I.tok tk, rfl, q⟩
  · obtain ⟨u1, u2, rfl, r1, r2⟩ := vals2 r
    cases (show u1 = Value.ref a from r1)
    cases (show u2 = Value.ref tp from r2)
    obtain ⟨_, its, rv, o, h1, h2, n, h3⟩ := (show ObjOk X.prog X.w H s.heap tp (.tup cs) from I.hok tp _ hT)
    have e3 := ClsV.all k rv
    subst e3
    obtain ⟨oc, od, dt, sl⟩ := o
    simp only at h2 h3
    subst h2 h3
    exact PySem.W.kia_tup Z I.kIn J h1 e (fun z => nomatch z) fun tk => ⟨.bl b, H, I.tok tk, rfl, q⟩
end
def rIsiX (K : PySem.W.Frag) : List V → Hp → VK → Prop := fun xs H Q => rIsi K xs H Q ∨ ∃ D a, ExcC K D ∧ rKx K D a xs H Q
theorem call_isiX {X : Cx} : CallR X (.builtin "isinstance") (rIsiX X.K) := by
  intro pins s σ H xs us Q I r h
  rcases h with h | ⟨D, a, C, h⟩
  · exact call_isi pins s σ H xs us Q I r h
  · exact call_kx C pins s σ H xs us Q I r h

/-! ### calls of defs -/
inductive ArgsOk (K : PySem.W.Frag) (H : Hp) : List V → List Sl → Prop
  | nil : ArgsOk K H [] []
  | fr {v d vs ds} : (∃ F, Rx K H v d F) → ArgsOk K H vs ds → ArgsOk K H (v :: vs) ((.fr, d) :: ds)
  | ro {v d vs ds} : Dp K H v d → ArgsOk K H vs ds → ArgsOk K H (v :: vs) ((.ro, d) :: ds)
abbrev WF := List Sl → (PyData → Prop) → Prop
/-- a def that changes nothing that stood, and hands back a value of its own -/
def spP (K : PySem.W.Frag) (n : Nat) (wf : WF) : Sp := fun vs H Q _ => ∃ (ds : List Sl) (Qp : PyData → Prop), ArgsOk K H vs ds ∧ ds.length = n ∧ wf ds Qp ∧
  ∀ v H' d F, Same H H' → Rx K H' v d F → F.Nodup → (∀ p ∈ F, H p = none) → Qp d → Q v H'
def ak (s : Sl) : Sl := match s with
  | (.ro, d) => (.ro, d)
  | (_, d) => (.fr, d)
theorem argsOk_of {K : PySem.W.Frag} {H : Hp} {G : Gh} : ∀ {vs : List V} {ds : List Sl} {cs : List Cel}, Cels vs ds cs → ∀ {L : List Cel}, St0 K H G (cs ++ L) → ArgsOk K H vs (ds.map ak) := by
  intro vs ds cs h
  induction h with
  | nil => intro L s; exact .nil
  | @cons v vs k d ds cs h ih =>
    intro L s
    have t := ih s.drop
    cases k with
    | un => exact .fr (s.rx (fun z => by cases z)) t
    | fr => exact .fr (s.rx (fun z => by cases z)) t
    | br => exact .fr (s.rx (fun z => by cases z)) t
    | ro => exact .ro s.dp t
    | rt => exact .fr (s.rx (fun z => by cases z)) t
    | io => exact .fr (s.rx (fun z => by cases z)) t
theorem ArgsOk.len {K : PySem.W.Frag} {H : Hp} {vs : List V} {ds : List Sl} (h : ArgsOk K H vs ds) : vs.length = ds.length := by
  induction h with
  | nil => rfl
  | fr _ _ ih => simp [ih]
  | ro _ _ ih => simp [ih]
def wCall (n : Nat) (wf : WF) (was : WA) : WE := fun ρ Q => was ρ fun ρ1 ds => ds.length = n ∧ wf (ds.map ak) fun d => Q ρ1 .un d
theorem lift_call {K : PySem.W.Frag} {n : Nat} {wf : WF} {t : TA} {E : XK} (l : LiftA K t was) : LiftE K (tCall (spP K n wf) [] E t) (wCall n wf was) := by
  intro G H σ ρ L Q Qp ok s h q
  refine l G H σ ρ L _ _ ok s h fun vs H1 ρ1 ds cs ok1 hc s1 h1 => ?_
  refine ⟨ds.map ak, _, by rw [List.append_nil]; exact argsOk_of hc s1, by rw [List.length_map]; exact h1.1, h1.2, fun v H2 d F sm r nd nw hq => ?_⟩
  exact q v H2 ρ1 .un d ok1 (s1.drops.fresh sm r nd nw) hq
/-! ### a def that hands back what nobody changes -/
/-- a def that changes nothing that stood; what it hands back is never changed, and no list of those who called is in it -/
def spPF (K : PySem.W.Frag) (n : Nat) (wf : WF) : Sp := fun vs H Q _ => ∃ (E : List Addr) (ds : List Sl) (Qp : PyData → Prop), E.Nodup ∧ (∀ p ∈ E, ∃ o, H p = some o ∧ ownO o = true) ∧ ArgsOk K (hide H E) vs ds ∧ ds.length = n ∧ wf ds Qp ∧
  ∀ v H' d F, Same H H' → Rx K (hide H' E) v d F → Qp d → Q v H'
def akF (s : Sl) : Bool := match s with
  | (.fr, _) => true
  | (.ro, _) => true
  | (.un, _) => true
  | (.br, d) => flat d
  | (.rt, _) => true
  | (.io, d) => flat d
theorem frz_args {K : PySem.W.Frag} {H : Hp} {G : Gh} : ∀ {vs : List V} {ds : List Sl} {cs : List Cel}, Cels vs ds cs → ds.all akF = true → ∀ {L : List Cel}, St0 K H G (cs ++ L) → ∃ cs', Cels vs (ds.map ak) cs' ∧ St0 K H G (cs' ++ L) := by
  intro vs ds cs h
  induction h with
  | nil => intro _ L s; exact ⟨[], .nil, s⟩
  | @cons v vs k d ds cs h ih =>
    intro ha L s
    rw [List.all_cons, Bool.and_eq_true] at ha
    have s1 : St0 K H G (⟨v, k, d⟩ :: (cs ++ L)) := s
    have s2 : ∃ k', (k', d) = ak (k, d) ∧ St0 K H G (⟨v, k', d⟩ :: (cs ++ L)) := by
      cases k with
      | un => exact ⟨.fr, rfl, s1.freeze (.inl rfl)⟩
      | fr => exact ⟨.fr, rfl, s1⟩
      | br => exact ⟨.fr, rfl, (s1.flatUn ha.1).freeze (.inl rfl)⟩
      | ro => exact ⟨.ro, rfl, s1⟩
      | rt => exact ⟨.fr, rfl, s1.freeze (.inr (.inr rfl))⟩
      | io => exact ⟨.fr, rfl, (s1.flatUn ha.1).freeze (.inl rfl)⟩
    obtain ⟨k', ek, s2⟩ := s2
    obtain ⟨cs', hc', s3⟩ := ih ha.2 (L := ⟨v, k', d⟩ :: L) (s2.perm List.perm_middle.symm)
    refine ⟨⟨v, k', d⟩ :: cs', ?_, s3.perm List.perm_middle⟩
    rw [List.map_cons, ← ek]
    exact .cons hc'
theorem argsOk_hide {K : PySem.W.Frag} {H : Hp} {E : List Addr} : ∀ {vs : List V} {ds : List Sl} {cs : List Cel}, Cels vs (ds.map ak) cs → (∀ c ∈ cs, Seen K H E c) → ArgsOk K (hide H E) vs (ds.map ak) := by
  intro vs ds
  induction ds generalizing vs with
  | nil => intro cs h _; cases h; exact .nil
  | cons x ds ih =>
    intro cs h hs
    obtain ⟨k, d⟩ := x
    rw [List.map_cons] at h ⊢
    cases k with
    | ro =>
      cases h with
      | cons h => exact .ro (hs _ List.mem_cons_self) (ih h fun c hc => hs c (List.mem_cons_of_mem _ hc))
    | un =>
      cases h with
      | cons h => exact .fr (hs _ List.mem_cons_self) (ih h fun c hc => hs c (List.mem_cons_of_mem _ hc))
    | fr =>
      cases h with
      | cons h => exact .fr (hs _ List.mem_cons_self) (ih h fun c hc => hs c (List.mem_cons_of_mem _ hc))
    | br =>
      cases h with
      | cons h => exact .fr (hs _ List.mem_cons_self) (ih h fun c hc => hs c (List.mem_cons_of_mem _ hc))
    | rt =>
      cases h with
      | cons h => exact .fr (hs _ List.mem_cons_self) (ih h fun c hc => hs c (List.mem_cons_of_mem _ hc))
    | io =>
      cases h with
      | cons h => exact .fr (hs _ List.mem_cons_self) (ih h fun c hc => hs c (List.mem_cons_of_mem _ hc))
def wCallF (n : Nat) (wf : WF) (was : WA) : WE := fun ρ Q => was ρ fun ρ1 ds => ds.length = n ∧ ds.all akF = true ∧ wf (ds.map ak) fun d => Q ρ1 .fr d
theorem lift_callF {K : PySem.W.Frag} {n : Nat} {wf : WF} {t : TA} {E : XK} (l : LiftA K t was) : LiftE K (tCall (spPF K n wf) [] E t) (wCallF n wf was) := by
  intro G H σ ρ L Q Qp ok s h q
  refine l G H σ ρ L _ _ ok s h fun vs H1 ρ1 ds cs ok1 hc s1 h1 => ?_
  obtain ⟨cs', hc', E1, st⟩ := frz_args hc h1.2.1 s1
  refine ⟨E1, ds.map ak, _, st.nd, st.ex.mem, ?_, by rw [List.length_map]; exact h1.1, h1.2.2, fun v H2 d F sm r hq => ?_⟩
  · rw [List.append_nil]
    exact argsOk_hide hc' fun c hc => st.sn c (List.mem_append_left _ hc)
  · have s2 : St0 K H2 G (⟨v, .fr, d⟩ :: (cs' ++ (lv σ ρ1 ++ L))) := ⟨E1, .fr (st.ex.same sm), st.nd, st.nw, st.sm.trans (hide_ext sm), st.gr.trans sm, fun c hc => by
      rcases List.mem_cons.mp hc with rfl | hc
      · exact ⟨F, r⟩
      · exact (st.sn c hc).ext sm⟩
    have s3 : St0 K H2 G (cs' ++ (⟨v, .fr, d⟩ :: (lv σ ρ1 ++ L))) := s2.perm List.perm_middle.symm
    exact q v H2 ρ1 .fr d ok1 s3.drops hq
/-- a def that may be called by its name -/
structure CalF (P : Program) (w : World) (K : PySem.W.Frag) (mg : Str → Option Value) (base : Heap) (k : Nat) (x : Str) (n : Nat) (wf : WF) : Prop where
  ex : ∃ (f : Addr) (fd : FuncData) (ps : List Str), FnOk P w K mg base CX0 k f fd ps (spPF K n wf) ∧ mg x = some (.ref f) ∧ PySem.W.keepIn K (.ref f) = true ∧ Binds K fd ps []
/-- a def that may be called by its name -/
structure Cal (P : Program) (w : World) (K : PySem.W.Frag) (mg : Str → Option Value) (base : Heap) (k : Nat) (x : Str) (n : Nat) (wf : WF) : Prop where
  ex : ∃ (f : Addr) (fd : FuncData) (ps : List Str), FnOk P w K mg base CX0 k f fd ps (spP K n wf) ∧ mg x = some (.ref f) ∧ PySem.W.keepIn K (.ref f) = true ∧ Binds K fd ps []
theorem ex_call {x : Str} {p : Pos} {k j n : Nat} {wf : WF} (c : Cal X.prog X.w X.K X.mg X.base k x n wf) (hr : Room j X.A) (hk : k ≤ j) (hg : Gl X x) (ha : PAx X (e :: es) was)
    (hdb : (x == ("__debug__" : Str)) = false) (he : starEach (e :: es) X.env = (false, eval e X.env) :: starEach es X.env) (hpl : (backTo pos (starEach es X.env)).any (·.1) = false) :
    PEx X (.Call (.Name x p) (e :: es) [] pos) (wCall n wf was) := by
  obtain ⟨f, fd, ps, F, hm, kp, b⟩ := c.ex
  obtain ⟨t, pa, l⟩ := ha
  exact ⟨_, pe_call F (hr.mono hk) hg hm kp b .nil pass0 pa hdb he hpl, lift_call l⟩
end
end PL
namespace PL
open PySem PySem.Spec L2
open PyProof.Rows (assign_Tuple)
/-! ### a list's items into targets -/
section
variable {prog : Program} {w : World} {A : Around} {E : Value → Shared → Prop} {s : Shared}
theorem draw_lst {it t : Addr} {items : Array Value} (hne : t ≠ it) : ∀ (n i : Nat) (s : Shared) (Q : List Value → Shared → Prop), s.heap.IsListIter it t i → s.heap.IsList t items → i + n ≤ items.size →
    (∀ h', h'.IsListIter it t (i + n) → Heap.SameBut it s.heap h' → Q ((items.toList.drop i).take n) { s with heap := h' }) → wpAny (model prog w) A (draw (.ref it) n) Q E s
  | 0, i, s, Q, hit, _, _, hQ => by
    show wpAny _ _ (pure []) Q E s
    exact wpAny_pure (by simpa using hQ s.heap hit (Heap.SameBut.refl ..))
  | n + 1, i, s, Q, hit, ht, hle, hQ => by
    have hlt : i < items.size := by omega
    show wpAny _ _ (pyNext (.ref it) >>= _) Q E s
    refine wpAny_bind (wpAny_pyNext_list_item hit ht (x := items[i]) (by simp [hlt]) fun h₁ hit₁ hs₁ => ?_)
    refine wpAny_bind (wpAny_holding (draw_lst hne n (i + 1) _ _ hit₁ (ht.extBut hs₁.extBut hne) (by omega) fun h₂ hit₂ hs₂ => wpAny_pure ?_))
    have hd : items.toList.drop i = items[i] :: items.toList.drop (i + 1) := by simp [List.drop_eq_getElem_cons, hlt]
    have := hQ h₂ (by rw [show i + (n + 1) = i + 1 + n by omega]; exact hit₂) (hs₁.trans hs₂)
    rw [hd, List.take_succ_cons] at this
    exact this
theorem unpackItems_lst {t : Addr} {items : Array Value} {Q : List Value → Shared → Prop} (hh : A.handled = none) (ht : s.heap.IsList t items)
    (hQ : ∀ h', Heap.ExtBut s.heap.objs.size s.heap h' → Q items.toList { s with heap := h' }) : wpAny (model prog w) A (unpackItems (.ref t) items.size none) Q E s := by
  have hlt : t ≠ s.heap.objs.size := by obtain ⟨o, ho, _⟩ := ht; exact Nat.ne_of_lt (Heap.lt_size ho)
  unfold unpackItems
  refine wpAny_bind ?_
  · unfold notIterableAtAll
    refine wpAny_bind (wpAny_specialOf ht.typeIs slot_list_iter.lookup ?_)
    refine wpAny_pure ?_
    simp only [Bool.false_eq_true, if_false]
    refine wpAny_bind (wpAny_holding (wpAny_pyIter_list ht ?_))
    refine wpAny_bind (wpAny_holding (draw_lst hlt items.size 0 _ _ ⟨_, Heap.get?_push_size _ rfl, rfl, rfl⟩ (ht.push _) (by omega) fun h₁ hit₁ hs₁ => ?_))
    have hall : List.take items.size (List.drop 0 items.toList) = items.toList := by
      rw [List.drop_zero]; exact List.take_of_length_le (by simp)
    rw [hall]
    rw [if_neg (by simp)]
    have ht₁ : h₁.IsList t items := (ht.push _).extBut hs₁.extBut hlt
    refine wpAny_bind (wpAny_holding (wpAny_pyNext_list_end hh hit₁ ht₁ (by simp) fun h₂ he₂ => ?_))
    simp only [Option.isSome_none, Bool.false_eq_true, if_false]
    refine wpAny_pure (hQ h₂ fun b o hb e => he₂ b o hb (hs₁.extBut b o hb (Heap.get?_push_of_some _ e)))
theorem assign_Tuple_lst {env : Env} {elts : List Expr} {x1} {pos : Pos} {t : Addr} {items : Array Value} {Q : Unit → Shared → Prop} (hh : A.handled = none) (ht : s.heap.IsList t items)
    (hn : (assignEach elts env).length = items.size) (hstar : (assignEach elts env).findIdx? (·.1) = none)
    (h : ∀ h', Heap.ExtBut s.heap.objs.size s.heap h' → wpAny (model prog w) A (assignInOrder ((assignEach elts env).map (·.2)) items.toList) Q E { s with heap := h' }) :
    wpAny (model prog w) A (assign (.Tuple elts x1 pos) env (.ref t)) Q E s := by
  rw [assign_Tuple]
  refine wpAny_bind (wpAny_standAt ?_)
  unfold unpack
  rw [hn, hstar]
  exact wpAny_bind (wpAny_holding (unpackItems_lst hh ht h))
end
def gSq (K : PySem.W.Frag) (n : Nat) (t : TGs) : TG := fun v σ H Q => ∃ a xs, v = .ref a ∧ (SqT K H a xs ∨ SqL K H a xs) ∧ xs.length = n ∧ t xs σ H Q
theorem pg_sq {X : Cx} {pos : Pos} {es : List Expr} {k : Nat} {t : TGs} {n : Nat} (hc : X.calm = true) (h : PGs X es t)
    (hn : (assignEach es X.env).length = n := by rfl) (hst : (assignEach es X.env).findIdx? (·.1) = none := by rfl) : PG X (.Tuple es k pos) (gSq X.K n t) := by
  refine ⟨fun pins s σ H v u Q I r hw => ?_⟩
  obtain ⟨a, xs, e1, hq, hl, hw⟩ := hw
  rcases hq with hq | hq
  · exact (pg_tup hc h hn hst).run pins s σ H v u Q I r ⟨a, xs, e1, hq, hl, hw⟩
  · subst e1
    cases r
    obtain ⟨its, rv, ht, hz⟩ := I.list hq
    refine assign_Tuple_lst (I.ok.hd hc) ht.isList (by simp [hn, ← hl, rv.length]) hst fun h' hx => ?_
    have I1 : Inv X pins σ H { s with heap := h' } := I.kept (t' := s.toks) fun b o e => hx b o (Nat.ne_of_lt (Heap.lt_size e)) e
    exact h.run pins _ σ H xs _ Q I1 (by simpa using rv) hw
end PL
namespace PL
open PySem PySem.Spec L2

theorem perm3 {α : Type} {A B C : List α} : (A ++ (B ++ C)).Perm (B ++ (A ++ C)) := by
  rw [← List.append_assoc, ← List.append_assoc]
  exact List.perm_append_comm.append_right _
/-! ### statements -/
structure KS where
  nx : Rho → Prop
  rt : Kd → PyData → Prop
  rm : Kd → PyData → PyData → Prop := fun _ _ _ => False
  bk : Rho → Prop := fun _ => False
  ct : Rho → Prop := fun _ => False
abbrev WS := KS → Rho → Prop
structure EndsOk (K : PySem.W.Frag) (G : Gh) (L : List Cel) (D : Ends) (κ : KS) : Prop where
  nx : ∀ σ H ρ, EnvOk σ ρ → St0 K H G (lv σ ρ ++ L) → κ.nx ρ → D.nx σ H
  bk : ∀ σ H ρ, EnvOk σ ρ → St0 K H G (lv σ ρ ++ L) → κ.bk ρ → D.bk σ H
  ct : ∀ σ H ρ, EnvOk σ ρ → St0 K H G (lv σ ρ ++ L) → κ.ct ρ → D.ct σ H
  rt : ∀ v H k d, St0 K H G (⟨v, k, d⟩ :: L) → κ.rt k d → D.rt v H
  rm : ∀ v H k d d0, St0 K H G (⟨v, k, d⟩ :: ⟨G.f.v, .io, d0⟩ :: L) → κ.rm k d d0 → D.rt v H
/-- nothing is borrowed -/
def NoBr (L : List Cel) : Prop := ∀ c ∈ L, c.k ≠ .br
def LiftS (K : PySem.W.Frag) (t : TS) (w : WS) : Prop := ∀ (G : Gh) (H : Hp) (σ : St) (ρ : Rho) (L : List Cel) (D : Ends) (κ : KS), G.b = Hp0 → NoBr L → EnvOk σ ρ → St0 K H G (lv σ ρ ++ L) → w κ ρ → EndsOk K G L D κ → t D σ H
def PSx (X : Cx) (s : Stmt) (w : WS) : Prop := ∃ t, PS X s t ∧ LiftS X.K t w
def PSsx (X : Cx) (s : List Stmt) (w : WS) : Prop := ∃ t, PSs X s t ∧ LiftS X.K t w
abbrev WG := Kd → PyData → Rho → (Rho → Prop) → Prop
def LiftG (K : PySem.W.Frag) (t : TG) (w : WG) : Prop := ∀ (G : Gh) (H : Hp) (σ : St) (ρ : Rho) (L : List Cel) (v : V) (k : Kd) (d : PyData) (Q : St → Hp → Prop) (Qp : Rho → Prop), EnvOk σ ρ → St0 K H G (⟨v, k, d⟩ :: (lv σ ρ ++ L)) → w k d ρ Qp →
  (∀ σ' H' ρ', EnvOk σ' ρ' → St0 K H' G (lv σ' ρ' ++ L) → Qp ρ' → Q σ' H') → t v σ H Q
def PGx (X : Cx) (e : Expr) (w : WG) : Prop := ∃ t, PG X e t ∧ LiftG X.K t w
abbrev WGs := List Sl → Rho → (Rho → Prop) → Prop
def LiftGs (K : PySem.W.Frag) (t : TGs) (w : WGs) : Prop := ∀ (G : Gh) (H : Hp) (σ : St) (ρ : Rho) (L : List Cel) (vs : List V) (ds : List Sl) (cs : List Cel) (Q : St → Hp → Prop) (Qp : Rho → Prop), EnvOk σ ρ → Cels vs ds cs → St0 K H G (cs ++ (lv σ ρ ++ L)) → w ds ρ Qp →
  (∀ σ' H' ρ', EnvOk σ' ρ' → St0 K H' G (lv σ' ρ' ++ L) → Qp ρ' → Q σ' H') → t vs σ H Q
def PGsx (X : Cx) (es : List Expr) (w : WGs) : Prop := ∃ t, PGs X es t ∧ LiftGs X.K t w

section
variable {X : Cx} {st : Stmt} {rest : List Stmt} {e a b c : Expr} {es : List Expr} {pos : Pos} {wa wb wc : WE} {wt : WT} {w u : WS} {wg : WG} {wgs : WGs}
def wSkip : WS := fun κ ρ => κ.nx ρ
def wSeq (w u : WS) : WS := fun κ ρ => w { κ with nx := u κ } ρ
theorem EndsOk.seq {K : PySem.W.Frag} {G : Gh} {L : List Cel} {D : Ends} {κ : KS} {t : TS} (h : EndsOk K G L D κ) (lt : LiftS K t u) (hb : G.b = Hp0) (nb : NoBr L) : EndsOk K G L { D with nx := t D } { κ with nx := u κ } :=
  ⟨fun σ H ρ ok s q => lt G H σ ρ L D κ hb nb ok s q h, h.bk, h.ct, h.rt, h.rm⟩
theorem ssx_nil : PSsx X [] wSkip := ⟨_, pss_nil, fun G H σ ρ L D κ hb nb ok s h q => q.nx σ H ρ ok s h⟩
theorem ssx_cons (h1 : PSx X st w) (h2 : PSsx X rest u) : PSsx X (st :: rest) (wSeq w u) := by
  obtain ⟨t1, p1, l1⟩ := h1; obtain ⟨t2, p2, l2⟩ := h2
  exact ⟨_, pss_cons p1 p2, fun G H σ ρ L D κ hb nb ok s h q => l1 G H σ ρ L _ _ hb nb ok s h (q.seq l2 hb nb)⟩
theorem ssx_one (h1 : PSx X st w) : PSsx X [st] w := by
  obtain ⟨t1, p1, l1⟩ := h1
  exact ⟨_, pss_one p1, l1⟩
theorem sx_pass : PSx X (.Pass pos) wSkip := ⟨_, ps_pass, fun G H σ ρ L D κ hb nb ok s h q => q.nx σ H ρ ok s h⟩
def wNever : WS := fun _ _ => False
theorem sx_never : PSx X st wNever := ⟨_, ps_never, fun _ _ _ _ _ _ _ _ _ _ _ h _ => h.elim⟩
def wDrop (wa : WE) : WS := fun κ ρ => wa ρ fun ρ1 _ _ => κ.nx ρ1
theorem sx_expr (ha : PEx X a wa) (hs : swapsWith a none pos.line X.env = pure false) : PSx X (.Expr a pos) (wDrop wa) := by
  obtain ⟨t, p, l⟩ := ha
  exact ⟨_, ps_expr p hs, fun G H σ ρ L D κ hb nb ok s h q => l G H σ ρ L _ _ ok s h fun v H1 ρ1 k d ok1 s1 h1 => q.nx σ H1 ρ1 ok1 s1.drop h1⟩
def wRet (wa : WE) : WS := fun κ ρ => wa ρ fun _ k d => κ.rt k d
theorem St0.noenv {K : PySem.W.Frag} {H : Hp} {G : Gh} {M L : List Cel} {c : Cel} (s : St0 K H G (c :: (M ++ L))) : St0 K H G (c :: L) := s.sub (M := M) List.perm_middle.symm
theorem sx_ret (ha : PEx X a wa) : PSx X (.Return (some a) pos) (wRet wa) := by
  obtain ⟨t, p, l⟩ := ha
  exact ⟨_, ps_ret p, fun G H σ ρ L D κ hb nb ok s h q => l G H σ ρ L _ _ ok s h fun v H1 ρ1 k d ok1 s1 h1 => q.rt v H1 k d s1.noenv h1⟩
def wIfS (wt : WT) (w u : WS) : WS := fun κ ρ => wt ρ fun ρ1 b => if b = true then w κ ρ1 else u κ ρ1
theorem sx_if {x y : List Stmt} (hc : PTx X c wt) (ha : PSsx X x w) (hb : PSsx X y u) : PSx X (.If c x y pos) (wIfS wt w u) := by
  obtain ⟨tc, pc, lc⟩ := hc; obtain ⟨ta, pa, la⟩ := ha; obtain ⟨tb, pb, lb⟩ := hb
  refine ⟨_, ps_if pc pa pb, fun G H σ ρ L D κ hb nb ok s h q => lc G H σ ρ L _ _ ok s h fun b H1 ρ1 ok1 s1 h1 => ?_⟩
  cases b with
  | true => rw [if_pos rfl] at h1 ⊢; exact la G H1 σ ρ1 L D κ hb nb ok1 s1 h1 q
  | false => rw [if_neg Bool.false_ne_true] at h1 ⊢; exact lb G H1 σ ρ1 L D κ hb nb ok1 s1 h1 q

/-! ### targets -/
def gN (i : Nat) : WG := fun k d ρ Q => stK k = true ∧ Q (ρ.set i (some (k, d)))
theorem lift_gN {K : PySem.W.Frag} (i : Nat) : LiftG K (gName i) (gN i) := by
  intro G H σ ρ L v k d Q Qp ok s h q
  exact q _ _ _ (ok.put i v k d h.1).1 (St0.put h.1 ok s) h.2
theorem gx_name {i : Nat} {x : Str} (hN : X.N.Nodup) (hi : X.N[i]? = some x) (hx : Loc X.env.scope x) (hf : X.fn x = true ∨ X.env.scope.names.lookup x = some .local) : PGx X (.Name x pos) (gN i) := ⟨_, pg_name hN hi hx hf, lift_gN i⟩
def gsNil : WGs := fun ds ρ Q => match ds with
  | [] => Q ρ
  | _ => False
def gsCons (wg : WG) (wgs : WGs) : WGs := fun ds ρ Q => match ds with
  | (k, d) :: r => wg k d ρ fun ρ1 => wgs r ρ1 Q
  | [] => False
theorem gsx_nil : PGsx X [] gsNil := by
  refine ⟨_, pgs_nil, ?_⟩
  intro G H σ ρ L vs ds cs Q Qp ok hc s h q
  unfold gsNil at h
  split at h
  · cases hc
    exact ⟨rfl, q σ H ρ ok s h⟩
  · exact h.elim
theorem gsx_cons (h1 : PGx X e wg) (h2 : PGsx X es wgs) (hs : (assignEach (e :: es) X.env).map (·.2) = assign e X.env :: (assignEach es X.env).map (·.2)) : PGsx X (e :: es) (gsCons wg wgs) := by
  obtain ⟨t1, p1, l1⟩ := h1; obtain ⟨t2, p2, l2⟩ := h2
  refine ⟨_, pgs_cons p1 p2 hs, ?_⟩
  intro G H σ ρ L vs ds cs Q Qp ok hc s h q
  unfold gsCons at h
  split at h
  · cases hc with
    | @cons v vs k d ds cs hc =>
      refine ⟨v, vs, rfl, ?_⟩
      refine l1 G H σ ρ (cs ++ L) v _ _ _ _ ok ?_ h fun σ1 H1 ρ1 ok1 s1 h1 => ?_
      · exact s.perm (List.Perm.cons _ perm3)
      · refine l2 G H1 σ1 ρ1 L vs _ cs _ _ ok1 hc ?_ h1 q
        exact s1.perm perm3
  · exact h.elim
/-- a tuple's items into targets -/
def gT (wgs : WGs) : WG := fun k d ρ Q => match d, k with
  | .tuple ds, k => wgs (ds.map fun x => (kp k x, x)) ρ Q
  | .list ds, .un => wgs (ds.map fun x => (kp .un x, x)) ρ Q
  | _, _ => False
/-- the items of an own list -/
theorem St0.itemsL {K : PySem.W.Frag} {H : Hp} {G : Gh} {L : List Cel} {v : V} {ds : List PyData} (s : St0 K H G (⟨v, .un, .list ds⟩ :: L)) :
    ∃ p xs cs, v = .ref p ∧ SqL K H p xs ∧ xs.length = ds.length ∧ Cels xs (ds.map fun x => (PL.kp .un x, x)) cs ∧ St0 K H G (cs ++ L) := by
  suffices h : ∃ p xs cs, v = .ref p ∧ SqL K H p xs ∧ xs.length = ds.length ∧ Cels xs (ds.map fun x => (.un, x)) cs ∧ St0 K H G (cs ++ L) by
    obtain ⟨p, xs, cs, h0, h1, h2, h3, h4⟩ := h
    have norm : ∀ {xs : List V} {ds : List PyData} {cs : List Cel}, Cels xs (ds.map fun x => (.un, x)) cs → ∀ {L : List Cel}, St0 K H G (cs ++ L) → ∃ cs', Cels xs (ds.map fun x => (PL.kp .un x, x)) cs' ∧ St0 K H G (cs' ++ L) := by
      intro xs ds
      induction ds generalizing xs with
      | nil =>
        intro cs hc L s
        cases hc
        exact ⟨[], .nil, s⟩
      | cons d ds ih =>
        intro cs hc L s
        cases hc with
        | @cons v vs _ _ _ cs hc =>
          obtain ⟨cs', hc', s'⟩ := ih hc (L := ⟨v, .un, d⟩ :: L) (s.perm List.perm_middle.symm)
          refine ⟨_, .cons hc', ?_⟩
          exact (s'.perm List.perm_middle).kp
    obtain ⟨cs', h5, h6⟩ := norm h3 h4
    exact ⟨p, xs, cs', h0, h1, h2, h5, h6⟩
  obtain ⟨E, s⟩ := s
  have cels : ∀ {xs : List V} {ds : List PyData}, xs.length = ds.length → Cels xs (ds.map fun x => (.un, x)) ((xs.zip ds).map fun q => ⟨q.1, .un, q.2⟩) := by
    intro xs
    induction xs with
    | nil => intro ds h; cases ds with | nil => exact .nil | cons _ _ => simp at h
    | cons x xs ih => intro ds h; cases ds with | nil => simp at h | cons d ds => exact .cons (ih (by simpa using h))
  have ex := s.ex
  have nd := s.nd
  cases id ex with
  | @un _ _ F _ E' r e' =>
    cases r with
    | @lst p xs _ F' hs ra =>
      have nd' : (F' ++ E').Nodup := by
        have nd : (p :: (F' ++ E')).Nodup := nd
        exact (List.nodup_cons.mp nd).2
      refine ⟨p, xs, _, rfl, SqL.of hs, rxAll_len ra, cels (rxAll_len ra), F' ++ E', s.mono ?_ nd' (fun b hb => List.mem_cons_of_mem _ hb) ?_⟩
      · have go : ∀ {xs : List V} {ds : List PyData} {F : List Addr}, RxAll K H xs ds F → Excl K H G.f (((xs.zip ds).map fun q => (⟨q.1, .un, q.2⟩ : Cel)) ++ L) (F ++ E') := by
          intro xs
          induction xs with
          | nil => intro ds F h; cases h; exact e'
          | cons x xs ih =>
            intro ds F h
            cases h with
            | cons r s => rw [List.append_assoc]; exact .un r (ih s)
        exact go ra
      · intro c hc
        rcases List.mem_append.mp hc with hc | hc
        · obtain ⟨q, _, rfl⟩ := List.mem_map.mp hc
          exact .inr rfl
        · exact .inl (List.mem_cons_of_mem _ hc)
/-- the items of a tuple as values of the tuple's kind -/
theorem St0.items0 {K : PySem.W.Frag} {H : Hp} {G : Gh} {L : List Cel} {v : V} {k : Kd} {ds : List PyData} (s : St0 K H G (⟨v, k, .tuple ds⟩ :: L)) (nio : k ≠ .io) :
    ∃ p xs cs, v = .ref p ∧ SqT K H p xs ∧ xs.length = ds.length ∧ Cels xs (ds.map fun x => (PL.kp k x, x)) cs ∧ St0 K H G (cs ++ L) := by
  obtain ⟨p, rfl⟩ := dp_ref_t s.dp
  suffices h : ∃ xs cs, SqT K H p xs ∧ xs.length = ds.length ∧ Cels xs (ds.map fun x => (k, x)) cs ∧ St0 K H G (cs ++ L) by
    obtain ⟨xs, cs, h1, h2, h3, h4⟩ := h
    have norm : ∀ {xs : List V} {ds : List PyData} {cs : List Cel}, Cels xs (ds.map fun x => (k, x)) cs → ∀ {L : List Cel}, St0 K H G (cs ++ L) → ∃ cs', Cels xs (ds.map fun x => (PL.kp k x, x)) cs' ∧ St0 K H G (cs' ++ L) := by
      intro xs ds
      induction ds generalizing xs with
      | nil =>
        intro cs hc L s
        cases hc
        exact ⟨[], .nil, s⟩
      | cons d ds ih =>
        intro cs hc L s
        cases hc with
        | @cons v vs _ _ _ cs hc =>
          obtain ⟨cs', hc', s'⟩ := ih hc (L := ⟨v, k, d⟩ :: L) (s.perm List.perm_middle.symm)
          refine ⟨_, .cons hc', ?_⟩
          exact (s'.perm List.perm_middle).kp
    obtain ⟨cs', h5, h6⟩ := norm h3 h4
    exact ⟨p, xs, cs', rfl, h1, h2, h5, h6⟩
  obtain ⟨E, s⟩ := s
  have z := s.sn _ List.mem_cons_self
  have cels : ∀ {xs : List V} {ds : List PyData}, xs.length = ds.length → Cels xs (ds.map fun x => (k, x)) ((xs.zip ds).map fun q => ⟨q.1, k, q.2⟩) := by
    intro xs
    induction xs with
    | nil => intro ds h; cases ds with | nil => exact .nil | cons _ _ => simp at h
    | cons x xs ih => intro ds h; cases ds with | nil => simp at h | cons d ds => exact .cons (ih (by simpa using h))
  cases k with
  | un =>
    have ex := s.ex
    cases id ex with
    | @un _ _ F _ E' r e' =>
      cases r with
      | @tup _ xs _ _ hs ra =>
        refine ⟨xs, _, hs, rxAll_len ra, cels (rxAll_len ra), F ++ E', s.mono ?_ s.nd (fun b hb => hb) ?_⟩
        · have go : ∀ {xs : List V} {ds : List PyData} {F : List Addr}, RxAll K H xs ds F → Excl K H G.f (((xs.zip ds).map fun q => (⟨q.1, .un, q.2⟩ : Cel)) ++ L) (F ++ E') := by
            intro xs
            induction xs with
            | nil => intro ds F h; cases h; exact e'
            | cons x xs ih =>
              intro ds F h
              cases h with
              | cons r s => rw [List.append_assoc]; exact .un r (ih s)
          exact go ra
        · intro c hc
          rcases List.mem_append.mp hc with hc | hc
          · obtain ⟨q, _, rfl⟩ := List.mem_map.mp hc
            exact .inr rfl
          · exact .inl (List.mem_cons_of_mem _ hc)
  | fr =>
    have ex : Excl K H G.f L E := by cases s.ex with | fr q => exact q
    obtain ⟨F, z⟩ := z
    cases z with
    | @tup _ xs _ _ hs ra =>
      refine ⟨xs, _, sqT_same hide_same hs, rxAll_len ra, cels (rxAll_len ra), E, ⟨?_, s.nd, s.nw, s.sm, s.gr, ?_⟩⟩
      · have go : ∀ l : List (V × PyData), Excl K H G.f ((l.map fun q => (⟨q.1, .fr, q.2⟩ : Cel)) ++ L) E := by
          intro l
          induction l with
          | nil => exact ex
          | cons _ _ ih => exact .fr ih
        exact go _
      · have go : ∀ {xs : List V} {ds : List PyData} {F : List Addr}, RxAll K (hide H E) xs ds F → ∀ c ∈ ((xs.zip ds).map fun q => (⟨q.1, .fr, q.2⟩ : Cel)), Seen K H E c := by
          intro xs
          induction xs with
          | nil => intro ds F h c hc; cases h; simp at hc
          | cons x xs ih =>
            intro ds F h c hc
            cases h with
            | cons r s =>
              simp only [List.zip_cons_cons, List.map_cons, List.mem_cons] at hc
              rcases hc with rfl | hc
              · exact ⟨_, r⟩
              · exact ih s c hc
        intro c hc
        rcases List.mem_append.mp hc with hc | hc
        · exact go ra c hc
        · exact s.sn c (List.mem_cons_of_mem _ hc)
  | br =>
    have ex : Excl K H G.f L E := by cases s.ex with | br q => exact q
    obtain ⟨F, z⟩ := z
    cases z with
    | @tup _ xs _ _ hs ra =>
      refine ⟨xs, _, hs, rxAll_len ra, cels (rxAll_len ra), E, ⟨?_, s.nd, s.nw, s.sm, s.gr, ?_⟩⟩
      · have go : ∀ l : List (V × PyData), Excl K H G.f ((l.map fun q => (⟨q.1, .br, q.2⟩ : Cel)) ++ L) E := by
          intro l
          induction l with
          | nil => exact ex
          | cons _ _ ih => exact .br ih
        exact go _
      · have go : ∀ {xs : List V} {ds : List PyData} {F : List Addr}, RxAll K H xs ds F → ∀ c ∈ ((xs.zip ds).map fun q => (⟨q.1, .br, q.2⟩ : Cel)), Seen K H E c := by
          intro xs
          induction xs with
          | nil => intro ds F h c hc; cases h; simp at hc
          | cons x xs ih =>
            intro ds F h c hc
            cases h with
            | cons r s =>
              simp only [List.zip_cons_cons, List.map_cons, List.mem_cons] at hc
              rcases hc with rfl | hc
              · exact ⟨_, r⟩
              · exact ih s c hc
        intro c hc
        rcases List.mem_append.mp hc with hc | hc
        · exact go ra c hc
        · exact s.sn c (List.mem_cons_of_mem _ hc)
  | rt =>
    obtain ⟨_, _, _, _, _, h2, _⟩ := z
    cases h2
  | io => exact absurd rfl nio
  | ro =>
    have ex : Excl K H G.f L E := by cases s.ex with | ro q => exact q
    cases z with
    | @tup _ xs _ hs ra =>
      refine ⟨xs, _, sqT_same hide_same hs, dpAll_len ra, cels (dpAll_len ra), E, ⟨?_, s.nd, s.nw, s.sm, s.gr, ?_⟩⟩
      · have go : ∀ l : List (V × PyData), Excl K H G.f ((l.map fun q => (⟨q.1, .ro, q.2⟩ : Cel)) ++ L) E := by
          intro l
          induction l with
          | nil => exact ex
          | cons _ _ ih => exact .ro ih
        exact go _
      · have go : ∀ {xs : List V} {ds : List PyData}, DpAll K (hide H E) xs ds → ∀ c ∈ ((xs.zip ds).map fun q => (⟨q.1, .ro, q.2⟩ : Cel)), Seen K H E c := by
          intro xs
          induction xs with
          | nil => intro ds h c hc; cases h; simp at hc
          | cons x xs ih =>
            intro ds h c hc
            cases h with
            | cons r s =>
              simp only [List.zip_cons_cons, List.map_cons, List.mem_cons] at hc
              rcases hc with rfl | hc
              · exact r
              · exact ih s c hc
        intro c hc
        rcases List.mem_append.mp hc with hc | hc
        · exact go ra c hc
        · exact s.sn c (List.mem_cons_of_mem _ hc)
theorem St0.items {K : PySem.W.Frag} {H : Hp} {G : Gh} {L : List Cel} {v : V} {k : Kd} {ds : List PyData} (s : St0 K H G (⟨v, k, .tuple ds⟩ :: L)) :
    ∃ p xs cs, v = .ref p ∧ SqT K H p xs ∧ xs.length = ds.length ∧ Cels xs (ds.map fun x => (PL.kp k x, x)) cs ∧ St0 K H G (cs ++ L) := by
  by_cases h : k = .io
  · subst h
    exact s.ioBr.items0 (fun z => by cases z)
  · exact s.items0 h
/-- the words for as many targets -/
def gsLen (wgs : WGs) (n : Nat) : Prop := ∀ ds ρ Q, wgs ds ρ Q → ds.length = n
theorem gsLen_nil : gsLen gsNil 0 := fun ds ρ Q h => by
  unfold gsNil at h
  split at h
  · rfl
  · exact h.elim
theorem gx_tup {n k : Nat} (hc : X.calm = true) (h : PGsx X es wgs) (hl : gsLen wgs n) (hn : (assignEach es X.env).length = n) (hst : (assignEach es X.env).findIdx? (·.1) = none) : PGx X (.Tuple es k pos) (gT wgs) := by
  obtain ⟨t, p, l⟩ := h
  refine ⟨_, pg_sq hc p hn hst, ?_⟩
  intro G H σ ρ L v k d Q Qp ok s hw q
  unfold gT at hw
  split at hw
  · obtain ⟨p, xs, cs, rfl, h1, h2, h3, h4⟩ := s.items
    refine ⟨p, xs, rfl, .inl h1, ?_, l G H σ ρ L xs _ cs Q Qp ok h3 h4 hw q⟩
    have := hl _ _ _ hw
    rw [List.length_map] at this
    rw [h2, this]
  · obtain ⟨p, xs, cs, rfl, h1, h2, h3, h4⟩ := s.itemsL
    refine ⟨p, xs, rfl, .inr h1, ?_, l G H σ ρ L xs _ cs Q Qp ok h3 h4 hw q⟩
    have := hl _ _ _ hw
    rw [List.length_map] at this
    rw [h2, this]
  · exact hw.elim
/-! ### stores -/
def wAsg (wa : WE) (wg : WG) : WS := fun κ ρ => wa ρ fun ρ1 k d => wg k d ρ1 κ.nx
theorem lift_asg {K : PySem.W.Frag} {te : TE} {tg : TG} (la : LiftE K te wa) (lg : LiftG K tg wg) : LiftS K (tAsg te tg) (wAsg wa wg) := fun G H σ ρ L D κ hb nb ok s h q =>
  la G H σ ρ L _ _ ok s h fun v H1 ρ1 k d ok1 s1 h1 => lg G H1 σ ρ1 L v k d _ _ ok1 s1 h1 fun σ2 H2 ρ2 ok2 s2 h2 => q.nx σ2 H2 ρ2 ok2 s2 h2
theorem sx_set {i : Nat} {x : Str} {pos' : Pos} (hN : X.N.Nodup) (hi : X.N[i]? = some x) (hx : Loc X.env.scope x) (ha : PEx X a wa) (hs : swapsWith a (some (.Name x pos')) pos.line X.env = pure false) (hf : X.fn x = true ∨ X.env.scope.names.lookup x = some .local) :
    PSx X (.Assign [.Name x pos'] a pos) (wAsg wa (gN i)) := by
  obtain ⟨ta, pa, la⟩ := ha
  exact ⟨_, ps_set hN hi hx pa hs hf, lift_asg la (lift_gN i)⟩
theorem sx_asg {tg : Expr} (ha : PEx X a wa) (hg : PGx X tg wg) (hs : swapsWithSole [tg] a pos.line X.env = pure false) (hw : swappedStores [tg] a X.env = pure none) (h1 : (assignEach [tg] X.env).map (·.2) = [assign tg X.env]) :
    PSx X (.Assign [tg] a pos) (wAsg wa wg) := by
  obtain ⟨ta, pa, la⟩ := ha; obtain ⟨tg, pg, lg⟩ := hg
  exact ⟨_, ps_asg pa pg hs hw h1, lift_asg la lg⟩
end
end PL
namespace PL
open PySem PySem.Spec L2

section
variable {K : PySem.W.Frag}
/-! ### what is walked -/
structure IterOk (K : PySem.W.Frag) (J : It) (c : Cel) (ds : List Sl) : Prop where
  go : ∀ (i : Nat) (H : Hp) (G : Gh) (M : List Cel), i < ds.length → St0 K H G (c :: M) → J.go i H
  stop : ∀ (H : Hp) (G : Gh) (M : List Cel), St0 K H G (c :: M) → J.stop ds.length H
  yld : ∀ (i : Nat) (H : Hp) (G : Gh) (M : List Cel) (x : V) (H' : Hp), i < ds.length → St0 K H G (c :: M) → J.yld i H x H' → ∃ k d, ds[i]? = some (k, d) ∧ St0 K H' G (⟨x, k, d⟩ :: c :: M)
abbrev WI := Rho → (Rho → List Sl → Prop) → Prop
def LiftI (K : PySem.W.Frag) (t : TI) (w : WI) : Prop := ∀ (G : Gh) (H : Hp) (σ : St) (ρ : Rho) (L : List Cel) (R : It → Hp → Prop) (Qp : Rho → List Sl → Prop), EnvOk σ ρ → St0 K H G (lv σ ρ ++ L) → w ρ Qp →
  (∀ J H1 ρ1 ds c, EnvOk σ ρ1 → c.k ≠ .br → St0 K H1 G (c :: (lv σ ρ1 ++ L)) → IterOk K J c ds → Qp ρ1 ds → R J H1) → t σ H R
def PIx (X : Cx) (tg iter : Expr) (w : WI) : Prop := ∃ t, PI X tg iter t ∧ LiftI X.K t w
/-- the kind under which a walked thing is kept -/
def kf (k : Kd) : Kd := match k with
  | .ro => .ro
  | _ => .fr
def itm (k : Kd) (ds : List PyData) : List Sl := ds.map fun d => (kp (kf k) d, d)
def wWalk (tup : Bool) (w : WE) : WI := fun ρ Q => w ρ fun ρ1 k d => match tup, d with
  | false, .list ds => k ≠ .br ∧ k ≠ .io ∧ Q ρ1 (itm k ds)
  | true, .tuple ds => k ≠ .br ∧ k ≠ .io ∧ Q ρ1 (itm k ds)
  | _, _ => False
theorem St0.keep {H : Hp} {G : Gh} {L : List Cel} {v : V} {k : Kd} {d : PyData} (s : St0 K H G (⟨v, k, d⟩ :: L)) (hk : k ≠ .br) (hio : k ≠ .io) : St0 K H G (⟨v, kf k, d⟩ :: L) := by
  cases k with
  | un => exact s.freeze (.inl rfl)
  | fr => exact s
  | br => exact absurd rfl hk
  | ro => exact s
  | rt => exact s.freeze (.inr (.inr rfl))
  | io => exact absurd rfl hio
theorem kv_kf {k : Kd} {d : PyData} : kv (kf k) d = kf k := by cases k <;> rfl
theorem kf_ne {k : Kd} : kf k ≠ .br := by cases k <;> (intro h; cases h)
theorem sq_inj {H : Hp} {G : Gh} {a : Addr} {k : Kd} {ds : List PyData} {M : List Cel} (tup : Bool) : True := trivial
theorem atI_nat' {α : Type} {xs : List α} {i : Nat} {u : α} (h : atI xs (i : Int) = some u) : xs[i]? = some u := by
  unfold atI ixN at h
  rw [if_pos (by omega)] at h
  by_cases z : (i : Int) < (xs.length : Int)
  · rw [if_pos z] at h
    simpa using h
  · rw [if_neg z] at h
    cases h
theorem iterOk_list {a : Addr} {k : Kd} {ds : List PyData} : IterOk K (Itl K a) ⟨.ref a, kf k, .list ds⟩ (itm k ds) := by
  refine ⟨fun i H G M hi s => ?_, fun H G M s => ?_, fun i H G M x H' hi s hy => ?_⟩
  · have dp := s.dp
    have hi : i < ds.length := by simpa [itm] using hi
    cases dp with
    | lst hs ha =>
      obtain ⟨v, hv, _⟩ := dpAll_get ha (j := i) (List.getElem?_eq_getElem hi)
      exact ⟨_, v, hs, hv⟩
  · have dp := s.dp
    cases dp with
    | lst hs ha => exact ⟨_, hs, by rw [dpAll_len ha]; simp [itm]⟩
  · have hi : i < ds.length := by simpa [itm] using hi
    obtain ⟨rfl, hy⟩ := hy
    have s2 := s.look
    rw [kv_kf] at s2
    obtain ⟨xs, u, h1, h2, h3⟩ := St0.item false s2 (atI_nat (List.getElem?_eq_getElem hi))
    have e := hy xs h1
    have e2 := atI_nat' h2
    rw [e] at e2
    have : x = u := Option.some.inj e2
    subst this
    refine ⟨kp (kf k) ds[i], ds[i], by simp [itm, hi], h3⟩
theorem iterOk_tup {a : Addr} {k : Kd} {ds : List PyData} : IterOk K (Itt K a) ⟨.ref a, kf k, .tuple ds⟩ (itm k ds) := by
  refine ⟨fun i H G M hi s => ?_, fun H G M s => ?_, fun i H G M x H' hi s hy => ?_⟩
  · have dp := s.dp
    have hi : i < ds.length := by simpa [itm] using hi
    cases dp with
    | tup hs ha =>
      obtain ⟨v, hv, _⟩ := dpAll_get ha (j := i) (List.getElem?_eq_getElem hi)
      exact ⟨_, v, hs, hv⟩
  · have dp := s.dp
    cases dp with
    | tup hs ha => exact ⟨_, hs, by rw [dpAll_len ha]; simp [itm]⟩
  · have hi : i < ds.length := by simpa [itm] using hi
    obtain ⟨rfl, hy⟩ := hy
    have s2 := s.look
    rw [kv_kf] at s2
    obtain ⟨xs, u, h1, h2, h3⟩ := St0.item true s2 (atI_nat (List.getElem?_eq_getElem hi))
    have e := hy xs h1
    have e2 := atI_nat' h2
    rw [e] at e2
    have : x = u := Option.some.inj e2
    subst this
    refine ⟨kp (kf k) ds[i], ds[i], by simp [itm, hi], h3⟩
theorem ix_list' {X : Cx} {tg a : Expr} {wa : WE} (ha : PEx X a wa) : PIx X tg a (wWalk false wa) := by
  obtain ⟨t, p, l⟩ := ha
  refine ⟨_, pi_list p, ?_⟩
  intro G H σ ρ L R Qp ok s h q
  refine l G H σ ρ L _ _ ok s h fun v H1 ρ1 k d ok1 s1 h1 => ?_
  have dv := s1.dp
  split at h1
  · obtain ⟨a, rfl⟩ := dp_ref_l dv
    refine ⟨a, rfl, ?_, q _ H1 ρ1 _ _ ok1 kf_ne (s1.keep h1.1 h1.2.1) iterOk_list h1.2.2⟩
    cases dv with
    | lst hs _ => exact ⟨_, hs⟩
  · rename_i e; cases e
  · exact h1.elim
theorem ix_tup' {X : Cx} {tg a : Expr} {wa : WE} (ha : PEx X a wa) : PIx X tg a (wWalk true wa) := by
  obtain ⟨t, p, l⟩ := ha
  refine ⟨_, pi_tup p, ?_⟩
  intro G H σ ρ L R Qp ok s h q
  refine l G H σ ρ L _ _ ok s h fun v H1 ρ1 k d ok1 s1 h1 => ?_
  have dv := s1.dp
  split at h1
  · rename_i e; cases e
  · obtain ⟨a, rfl⟩ := dp_ref_t dv
    refine ⟨a, rfl, ?_, q _ H1 ρ1 _ _ ok1 kf_ne (s1.keep h1.1 h1.2.1) iterOk_tup h1.2.2⟩
    cases dv with
    | tup hs _ => exact ⟨_, hs⟩
  · exact h1.elim
/-- a range -/
def rng (lo : Int) (n : Nat) : List Sl := (List.range n).map fun i => (.un, .int (lo + (i : Nat)))
theorem iterOk_rng {lo : Int} {n : Nat} : IterOk K (Itr lo n) ⟨.non, .un, .none⟩ (rng lo n) := by
  refine ⟨fun i H G M hi s => (show i < n by simpa [rng] using hi), fun H G M s => (show n ≤ _ by simp [rng]), fun i H G M x H' hi s hy => ?_⟩
  have hi : i < n := by simpa [rng] using hi
  obtain ⟨rfl, rfl⟩ := hy
  exact ⟨.un, _, by simp [rng, hi], s.scal (.int _)⟩
def wR1 (was : WA) : WI := fun ρ Q => was ρ fun ρ1 ds => match ds with
  | [(_, .int j)] => -(2 ^ 62) ≤ j ∧ j < 2 ^ 62 ∧ Q ρ1 (rng 0 j.toNat)
  | _ => False
def wR2 (was : WA) : WI := fun ρ Q => was ρ fun ρ1 ds => match ds with
  | [(_, .int i), (_, .int j)] => (-(2 ^ 62) ≤ i ∧ i < 2 ^ 62 ∧ -(2 ^ 62) ≤ j ∧ j < 2 ^ 62) ∧ Q ρ1 (rng i (j - i).toNat)
  | _ => False
theorem ix_r1 {X : Cx} {tg a : Expr} {was : WA} {p pos : Pos} (hg : Gl X "range") (hm : X.mg "range" = none) (ha : PAx X [a] was) (hs : starEach [a] X.env = [(false, eval a X.env)]) : PIx X tg (.Call (.Name "range" p) [a] [] pos) (wR1 was) := by
  obtain ⟨t, pa, l⟩ := ha
  refine ⟨_, pi_range1 hg hm pa hs, ?_⟩
  intro G H σ ρ L R Qp ok s h q
  refine l G H σ ρ L _ _ ok s h fun vs H1 ρ1 ds cs ok1 hc s1 h1 => ?_
  split at h1
  · cases hc with
    | cons hc =>
      cases hc
      have d1 := s1.dp
      cases d1
      exact ⟨_, rfl, h1.1, h1.2.1, q _ H1 ρ1 _ _ ok1 (by intro z; cases z) (s1.drop.scal .non) iterOk_rng h1.2.2⟩
  · exact h1.elim
theorem ix_r2 {X : Cx} {tg a b : Expr} {was : WA} {p pos : Pos} (hg : Gl X "range") (hm : X.mg "range" = none) (ha : PAx X [a, b] was) (hs : starEach [a, b] X.env = [(false, eval a X.env), (false, eval b X.env)]) (hs2 : starEach [b] X.env = [(false, eval b X.env)]) : PIx X tg (.Call (.Name "range" p) [a, b] [] pos) (wR2 was) := by
  obtain ⟨t, pa, l⟩ := ha
  refine ⟨_, pi_range2 hg hm pa hs hs2, ?_⟩
  intro G H σ ρ L R Qp ok s h q
  refine l G H σ ρ L _ _ ok s h fun vs H1 ρ1 ds cs ok1 hc s1 h1 => ?_
  split at h1
  · cases hc with
    | cons hc =>
      cases hc with
      | cons hc =>
        cases hc
        have d1 := s1.dp
        have d2 := s1.drop.dp
        cases d1; cases d2
        exact ⟨_, _, rfl, h1.1, q _ H1 ρ1 _ _ ok1 (by intro z; cases z) (s1.drop.drop.scal .non) iterOk_rng h1.2⟩
  · exact h1.elim
/-- a range by steps -/
def rng3 (lo c : Int) (n : Nat) : List Sl := (List.range n).map fun i => (.un, .int (lo + (i : Nat) * c))
theorem iterOk_rng3 {lo c : Int} {n : Nat} : IterOk K (Itc lo c n) ⟨.non, .un, .none⟩ (rng3 lo c n) := by
  refine ⟨fun i H G M hi s => (show i < n by simpa [rng3] using hi), fun H G M s => (show n ≤ _ by simp [rng3]), fun i H G M x H' hi s hy => ?_⟩
  have hi : i < n := by simpa [rng3] using hi
  obtain ⟨rfl, rfl⟩ := hy
  exact ⟨.un, _, by simp [rng3, hi], s.scal (.int _)⟩
def wR3 (was : WA) : WI := fun ρ Q => was ρ fun ρ1 ds => match ds with
  | [(_, .int i), (_, .int j), (_, .int c)] => ∃ n, RgC i j c n ∧ Q ρ1 (rng3 i c n)
  | _ => False
theorem ix_r3 {X : Cx} {tg a b c : Expr} {was : WA} {p pos : Pos} (hg : Gl X "range") (hm : X.mg "range" = none) (ha : PAx X [a, b, c] was) : (∀ t, PA X [a, b, c] t → PI X tg (.Call (.Name "range" p) [a, b, c] [] pos) (iRng3 t)) → PIx X tg (.Call (.Name "range" p) [a, b, c] [] pos) (wR3 was) := by
  intro hpi
  obtain ⟨t, pa, l⟩ := ha
  refine ⟨_, hpi t pa, ?_⟩
  intro G H σ ρ L R Qp ok s h q
  refine l G H σ ρ L _ _ ok s h fun vs H1 ρ1 ds cs ok1 hc s1 h1 => ?_
  split at h1
  · obtain ⟨n, hr, h1⟩ := h1
    cases hc with
    | cons hc =>
      cases hc with
      | cons hc =>
        cases hc with
        | cons hc =>
          cases hc
          have d1 := s1.dp
          have d2 := s1.drop.dp
          have d3 := s1.drop.drop.dp
          cases d1; cases d2; cases d3
          exact ⟨_, _, _, n, rfl, hr, q _ H1 ρ1 _ _ ok1 (by intro z; cases z) (s1.drop.drop.drop.scal .non) iterOk_rng3 h1⟩
  · exact h1.elim
/-- reversed(list) -/
theorem iterOk_rev {a : Addr} {k : Kd} {ds : List PyData} : IterOk K (Itv K a ds.length) ⟨.ref a, kf k, .list ds⟩ (itm k ds.reverse) := by
  refine ⟨fun i H G M hi s => ?_, fun H G M s => ?_, fun i H G M x H' hi s hy => ?_⟩
  · have dp := s.dp
    have hi : i < ds.length := by simpa [itm] using hi
    have hj : ds.length - 1 - i < ds.length := by omega
    cases dp with
    | lst hs ha =>
      obtain ⟨v, hv, _⟩ := dpAll_get ha (j := ds.length - 1 - i) (List.getElem?_eq_getElem hj)
      exact ⟨hi, _, v, hs, hv⟩
  · show ds.length ≤ _
    simp [itm]
  · have hi : i < ds.length := by simpa [itm] using hi
    have hj : ds.length - 1 - i < ds.length := by omega
    obtain ⟨rfl, hy⟩ := hy
    have s2 := s.look
    rw [kv_kf] at s2
    obtain ⟨xs, u, h1, h2, h3⟩ := St0.item false s2 (atI_nat (List.getElem?_eq_getElem hj))
    have e := hy xs h1
    have e2 := atI_nat' h2
    rw [e] at e2
    have : x = u := Option.some.inj e2
    subst this
    refine ⟨kp (kf k) ds[ds.length - 1 - i], ds[ds.length - 1 - i], ?_, h3⟩
    have hrl : i < ds.reverse.length := by simpa using hi
    show (ds.reverse.map fun d => (kp (kf k) d, d))[i]? = _
    rw [List.getElem?_map, List.getElem?_reverse hi, List.getElem?_eq_getElem hj]
    rfl
def wRev (w : WE) : WI := fun ρ Q => w ρ fun ρ1 k d => match d with
  | .list ds => k ≠ .br ∧ k ≠ .io ∧ Q ρ1 (itm k ds.reverse)
  | _ => False
theorem ix_rev {X : Cx} {tg a : Expr} {wa : WE} {p pos : Pos} (hg : Gl X "reversed") (hm : X.mg "reversed" = none) (ha : PEx X a wa) (hs1 : starEach (a :: []) X.env = (false, eval a X.env) :: starEach [] X.env) (hs : starEach [a] X.env = [(false, eval a X.env)]) : PIx X tg (.Call (.Name "reversed" p) [a] [] pos) (wRev wa) := by
  obtain ⟨t, pa, l⟩ := ha
  refine ⟨_, pi_reversed hg hm (pa_cons pa pa_nil hs1) hs, ?_⟩
  intro G H σ ρ L R Qp ok s h q
  refine l G H σ ρ L _ _ ok s h fun v H1 ρ1 k d ok1 s1 h1 => ?_
  have dv := s1.dp
  split at h1
  · rename_i ds
    obtain ⟨a, rfl⟩ := dp_ref_l dv
    have fin := q (Itv X.K a ds.length) H1 ρ1 _ _ ok1 kf_ne (s1.keep h1.1 h1.2.1) iterOk_rev h1.2.2
    cases dv with
    | lst hs hall => exact ⟨a, _, rfl, hs, by rw [dpAll_len hall]; exact fin⟩
  · exact h1.elim

/-! ### for -/
def forW (wg : WG) (wb : WS) (κ : KS) : List Sl → Rho → Prop
  | [], ρ => κ.nx ρ
  | (k, d) :: r, ρ => wg k d ρ fun ρ1 => wb { κ with nx := forW wg wb κ r, ct := forW wg wb κ r, bk := κ.nx } ρ1
def wFor (wi : WI) (wg : WG) (wb : WS) : WS := fun κ ρ => wi ρ fun ρ1 ds => forW wg wb κ ds ρ1
theorem drop_get {α : Type} {l : List α} {i : Nat} {x : α} (h : l[i]? = some x) : l.drop i = x :: l.drop (i + 1) := by
  obtain ⟨hi, e⟩ := List.getElem?_eq_some_iff.mp h
  rw [List.drop_eq_getElem_cons hi, e]
theorem NoBr.cons {c : Cel} {L : List Cel} (h : c.k ≠ .br) (n : NoBr L) : NoBr (c :: L) := fun c' hc => by
  rcases List.mem_cons.mp hc with rfl | hc
  · exact h
  · exact n c' hc
theorem lift_for {ti : TI} {g : TG} {tb : TS} {wi : WI} {wg : WG} {wb : WS} (li : LiftI K ti wi) (lg : LiftG K g wg) (lb : LiftS K tb wb) : LiftS K (tFor ti g tb) (wFor wi wg wb) := by
  intro G H σ ρ L D κ hb nb ok s h q
  refine li G H σ ρ L _ _ ok s h fun J H1 ρ1 ds c ok1 hc s1 it h1 => ?_
  refine ⟨fun i m σ H => m = ds.length - i ∧ i ≤ ds.length ∧ ∃ ρ, EnvOk σ ρ ∧ St0 K H G (c :: (lv σ ρ ++ L)) ∧ forW wg wb κ (ds.drop i) ρ, ⟨ds.length, by simp, Nat.zero_le _, ρ1, ok1, s1, h1⟩, ?_⟩
  rintro i m σ2 H2 ⟨rfl, hi, ρ2, ok2, s2, h2⟩
  by_cases hlt : i < ds.length
  · obtain ⟨⟨k, d⟩, hd⟩ : ∃ x, ds[i]? = some x := ⟨_, List.getElem?_eq_getElem hlt⟩
    refine .inr ⟨it.go i H2 G _ hlt s2, fun σ' H' => ∃ ρ', EnvOk σ' ρ' ∧ St0 K H' G (c :: (lv σ' ρ' ++ L)) ∧ forW wg wb κ (ds.drop (i + 1)) ρ', ?_, ?_⟩
    · rintro σ' H' ⟨ρ', ok', s', h'⟩
      exact ⟨ds.length - (i + 1), by omega, rfl, hlt, ρ', ok', s', h'⟩
    · intro x H3 hy
      obtain ⟨k', d', hd', s3⟩ := it.yld i H2 G _ x H3 hlt s2 hy
      rw [hd] at hd'
      cases hd'
      rw [drop_get hd] at h2
      refine lg G H3 σ2 ρ2 (c :: L) x k d _ _ ok2 ?_ h2 fun σ4 H4 ρ4 ok4 s4 h4 => ?_
      · exact s3.perm (List.Perm.cons _ List.perm_middle.symm)
      · refine lb G H4 σ4 ρ4 (c :: L) _ _ hb (nb.cons hc) ok4 s4 h4 ⟨fun σ H ρ ok s q' => ⟨ρ, ok, s.perm List.perm_middle, q'⟩, fun σ H ρ ok s q' => q.nx σ H ρ ok (s.perm List.perm_middle).drop q', fun σ H ρ ok s q' => ⟨ρ, ok, s.perm List.perm_middle, q'⟩, fun v H k d s q' => q.rt v H k d (s.perm (.swap _ _ _)).drop q', fun v H k d d0 s q' => q.rm v H k d d0 (s.perm (((List.Perm.swap _ _ _).cons _).trans (.swap _ _ _))).drop q'⟩
  · have e : i = ds.length := by omega
    subst e
    rw [List.drop_length] at h2
    exact .inl ⟨it.stop H2 G _ s2, q.nx σ2 H2 ρ2 ok2 s2.drop h2⟩
theorem sx_for {X : Cx} {tg iter : Expr} {body : List Stmt} {wi : WI} {wg : WG} {wb : WS} {pos : Pos} (hx : X.xe = fun _ _ => False) (hc : X.calm = true) (hi : PIx X tg iter wi) (hg : PGx X tg wg) (hb : PSsx X body wb)
    (hs : ∀ x, foldedSetIterable iter X.env x = pure x) : PSx X (.For tg iter body [] pos) (wFor wi wg wb) := by
  obtain ⟨ti, pi, li⟩ := hi; obtain ⟨g, pg, lg⟩ := hg; obtain ⟨tb, pb, lb⟩ := hb
  exact ⟨_, ps_for (by rw [hx]; exact PassesOwn.never) hc pi pg pb hs, lift_for li lg lb⟩

/-! ### while -/
def wWhile (wt : WT) (wb : WS) : WS := fun κ ρ => ∃ I : Nat → Rho → Prop, (∃ n, I n ρ) ∧ ∀ n ρ, I n ρ →
  wt ρ fun ρ1 b => if b = true then wb { κ with nx := fun ρ' => ∃ m, m < n ∧ I m ρ', ct := fun ρ' => ∃ m, m < n ∧ I m ρ', bk := κ.nx } ρ1 else κ.nx ρ1
theorem lift_while {c : TT} {tb : TS} {wt : WT} {wb : WS} (lc : LiftT K c wt) (lb : LiftS K tb wb) : LiftS K (tWhile c tb) (wWhile wt wb) := by
  intro G H σ ρ L D κ hb nb ok s h q
  obtain ⟨I, ⟨n, h0⟩, hs⟩ := h
  refine ⟨fun m σ H => ∃ ρ, EnvOk σ ρ ∧ St0 K H G (lv σ ρ ++ L) ∧ I m ρ, ⟨n, ρ, ok, s, h0⟩, ?_⟩
  rintro m σ2 H2 ⟨ρ2, ok2, s2, h2⟩
  refine lc G H2 σ2 ρ2 L _ _ ok2 s2 (hs m ρ2 h2) fun b H3 ρ3 ok3 s3 h3 => ?_
  cases b with
  | true =>
    rw [if_pos rfl] at h3 ⊢
    refine ⟨fun σ' H' => ∃ ρ', EnvOk σ' ρ' ∧ St0 K H' G (lv σ' ρ' ++ L) ∧ ∃ m', m' < m ∧ I m' ρ', fun σ' H' ⟨ρ', o', s', m', lt, i'⟩ => ⟨m', lt, ρ', o', s', i'⟩, ?_⟩
    exact lb G H3 σ2 ρ3 L _ _ hb nb ok3 s3 h3 ⟨fun σ H ρ ok s q' => ⟨ρ, ok, s, q'⟩, fun σ H ρ ok s q' => q.nx σ H ρ ok s q', fun σ H ρ ok s q' => ⟨ρ, ok, s, q'⟩, fun v H k d s q' => q.rt v H k d s q', fun v H k d d0 s q' => q.rm v H k d d0 s q'⟩
  | false =>
    rw [if_neg Bool.false_ne_true] at h3 ⊢
    exact q.nx σ2 H3 ρ3 ok3 s3 h3

/-! ### a list of one's own is changed -/
def isUn : Kd → Bool
  | .un => true
  | .fr => false
  | .br => false
  | .ro => false
  | .rt => false
  | .io => false
def isIo : Kd → Bool
  | .un => false
  | .fr => false
  | .br => false
  | .ro => false
  | .rt => false
  | .io => true
def wApp (k : Kd) (es : List Sl) (Q : Kd → Prop) : Prop := if isIo k = true then allUn es = true ∧ Q .io else if (isUn k && allUn es) = true then Q .un else allFr es = true ∧ Q .rt
/-- how the new list comes of the old one and the new things -/
def Sel (K : PySem.W.Frag) (H0 : Hp) (vs us vs' : List V) (ds : List PyData) (es : List Sl) (ds' : List PyData) : Prop :=
  ∀ (H : Hp) (F Fe : List Addr), Same H H0 → RxAll K H vs ds F → RxAll K H us (es.map (·.2)) Fe → ∃ F' F2, RxAll K H vs' ds' F' ∧ F2.Sublist (Fe ++ F) ∧ F'.Perm F2
theorem rt_mem {H : Hp} {X : Frm} : ∀ {L : List Cel} {E : List Addr}, Excl K H X L E → ∀ c ∈ L, c.k = .rt → ∀ b, c.v = .ref b → b ∈ E := by
  intro L E ex
  induction ex with
  | nil => intro c hc; simp at hc
  | un r s ih =>
    intro c hc hk b hv
    rcases List.mem_cons.mp hc with rfl | hc
    · cases hk
    · exact List.mem_append_right _ (ih c hc hk b hv)
  | fr s ih =>
    intro c hc hk b hv
    rcases List.mem_cons.mp hc with rfl | hc
    · cases hk
    · exact ih c hc hk b hv
  | br s ih =>
    intro c hc hk b hv
    rcases List.mem_cons.mp hc with rfl | hc
    · cases hk
    · exact ih c hc hk b hv
  | ro s ih =>
    intro c hc hk b hv
    rcases List.mem_cons.mp hc with rfl | hc
    · cases hk
    · exact ih c hc hk b hv
  | rt e s ih =>
    intro c hc hk b hv
    rcases List.mem_cons.mp hc with rfl | hc
    · cases hv; exact List.mem_cons_self
    · exact List.mem_cons_of_mem _ (ih c hc hk b hv)
  | io q r s ih =>
    intro c hc hk b hv
    rcases List.mem_cons.mp hc with rfl | hc
    · cases hk
    · exact List.mem_append_right _ (ih c hc hk b hv)
theorem St0.chg {H : Hp} {G : Gh} {L : List Cel} {p : Addr} {k : Kd} {ds : List PyData} {us : List V} {es : List Sl} {cs : List Cel} (hc : Cels us es cs) (s : St0 K H G (cs ++ (⟨.ref p, k, .list ds⟩ :: L)))
    (hk : k = .un ∨ k = .rt) (nb : NoBr L) (hb : G.b p = none) :
    ∃ vs, H p = some (.lst vs) ∧ vs.length = ds.length ∧ (∀ (i : Nat) (d : PyData), ds[i]? = some d → ∃ v, vs[i]? = some v ∧ Dp K H v d) ∧ ∀ vs' ds', Sel K H vs us vs' ds es ds' → ∀ Q, wApp k es Q → ∃ k', Q k' ∧ St0 K (upd H p (.lst vs')) G (⟨.ref p, k', .list ds'⟩ :: L) := by
  have s0 := s
  have sp : St0 K H G (⟨.ref p, k, .list ds⟩ :: (cs ++ L)) := s.perm List.perm_middle
  have hkr : k ≠ .ro := by rcases hk with rfl | rfl <;> (intro z; cases z)
  obtain ⟨F0, r0⟩ := sp.rx hkr
  cases r0 with
  | @lst _ vs _ F0' hp r0 =>
    refine ⟨vs, hp, rxAll_len r0, fun i d hd => ?_, fun vs' ds' sel Q w => ?_⟩
    · obtain ⟨v, F', h1, h2, _⟩ := rxAll_get r0 hd
      exact ⟨v, h1, h2.dp⟩
    · have grow : ∀ {b : Hp}, Same b H → b p = none → Same b (upd H p (.lst vs')) := fun {b} sm hn a o e => by
        rw [upd_ne (ne_of_none e hn)]
        exact sm a o e
      unfold wApp at w
      rw [if_neg (by rcases hk with rfl | rfl <;> (intro z; cases z))] at w
      split at w
      · rename_i a
        rw [Bool.and_eq_true] at a
        have hk' : k = .un := by rcases hk with rfl | rfl; rfl; exact absurd a.1 (by simp [isUn])
        subst hk'
        obtain ⟨Fe, E, re, ex, nd, nw, sm, gr, sn⟩ := gatherUn hc s a.2
        cases ex with
        | @un _ _ F1 _ E1 r1 e1 =>
          cases r1 with
          | @lst _ ws _ F hp' r =>
            rw [hp] at hp'
            cases hp'
            obtain ⟨F', F2, r', sub, pm⟩ := sel H F Fe (Same.refl H) r re
            -- the parts of the old footprint
            have nd2 : (Fe ++ (p :: (F ++ E1))).Nodup := nd
            have nd3 : (p :: (Fe ++ F ++ E1)).Nodup := by
              have : (Fe ++ (p :: (F ++ E1))).Perm (p :: (Fe ++ F ++ E1)) := by
                rw [List.append_assoc]
                exact List.perm_middle
              exact this.nodup_iff.mp nd2
            have nd4 : (p :: (F2 ++ E1)).Nodup := (List.Sublist.cons_cons p (sub.append_right E1)).nodup nd3
            have nd5 : (p :: (F' ++ E1)).Nodup := ((pm.append_right E1).cons p).nodup_iff.mpr nd4
            have hsub : ∀ b, b ∈ p :: (F' ++ E1) → b ∈ Fe ++ (p :: F ++ E1) := fun b hb => by
              rcases List.mem_cons.mp hb with rfl | hb
              · exact List.mem_append_right _ (by simp)
              · rcases List.mem_append.mp hb with hb | hb
                · have z := sub.subset (pm.subset hb)
                  rcases List.mem_append.mp z with z | z
                  · exact List.mem_append_left _ z
                  · exact List.mem_append_right _ (by simp [z])
                · exact List.mem_append_right _ (by simp [hb])
            have pF' : p ∉ F' := fun z => (List.nodup_cons.mp nd5).1 (List.mem_append_left _ z)
            have pE1 : p ∉ E1 := fun z => (List.nodup_cons.mp nd5).1 (List.mem_append_right _ z)
            have pin : p ∈ (p :: F') ++ E1 := by simp
            refine ⟨.un, w, (p :: F') ++ E1, .un (.lst upd_same (r'.upd hp pF')) (e1.upd hp pE1), nd5, fun q hq => nw q (hsub q hq), ?_, grow gr hb, fun c hc0 => ?_⟩
            · rw [hide_upd_in pin]
              exact sm.trans (hide_mono hsub)
            · rcases List.mem_cons.mp hc0 with rfl | hm
              · trivial
              · have z := (sn c (List.mem_cons_of_mem _ hm)).mono hsub
                have nbc := nb c hm
                obtain ⟨v', k', d'⟩ := c
                cases k' with
                | un => trivial
                | fr => obtain ⟨Fz, z⟩ := z; exact ⟨Fz, by rw [hide_upd_in pin]; exact z⟩
                | br => exact absurd rfl nbc
                | ro => show Dp K (hide (upd H p (.lst vs')) _) v' d'; rw [hide_upd_in pin]; exact z
                | rt =>
                  obtain ⟨a, ws, dz, Fz, h1, h2, h3, h4⟩ := z
                  refine ⟨a, ws, dz, Fz, h1, h2, ?_, by rw [hide_upd_in pin]; exact h4⟩
                  have na : a ≠ p := by
                    rintro rfl
                    exact pE1 (rt_mem e1 _ hm rfl _ h1)
                  rw [upd_ne na]
                  exact h3
                | io => trivial
      · obtain ⟨a, w⟩ := w
        -- all shared but the list itself
        have sr : St0 K H G (cs ++ (⟨.ref p, .rt, .list ds⟩ :: L)) := by
          rcases hk with rfl | rfl
          · have s1 := sp
            obtain ⟨E, s1⟩ := s1
            have nd := s1.nd
            cases id s1.ex with
            | @un _ _ F1 _ E' r1 e1 =>
              cases r1 with
              | @lst _ ws _ F hp' r =>
                have nd' : (p :: (F ++ E')).Nodup := nd
                have hsub : ∀ b, b ∈ p :: E' → b ∈ p :: F ++ E' := fun b hb => by
                  rcases List.mem_cons.mp hb with rfl | hb
                  · simp
                  · simp [hb]
                have nd2 : (p :: E').Nodup := (List.Sublist.cons_cons p (List.sublist_append_right F E')).nodup nd'
                have dis : ∀ q ∈ F, q ∉ p :: E' := fun q hq z => by
                  rcases List.mem_cons.mp z with rfl | z
                  · exact (List.nodup_cons.mp nd').1 (List.mem_append_left _ hq)
                  · exact (List.nodup_append.mp (List.nodup_cons.mp nd').2).2.2 q hq q z rfl
                have s2 : St0 K H G (⟨.ref p, .rt, .list ds⟩ :: (cs ++ L)) := by
                  refine ⟨p :: E', .rt hp' e1, nd2, fun q hq => s1.nw q (hsub q hq), s1.sm.trans (hide_mono hsub), s1.gr, fun c hc' => ?_⟩
                  rcases List.mem_cons.mp hc' with rfl | hc'
                  · refine ⟨p, _, ds, F, rfl, rfl, hp', rxAll_hide (fun q hq => ?_) dis r⟩
                    rcases List.mem_cons.mp hq with rfl | hq
                    · exact ⟨_, hp', rfl⟩
                    · exact e1.mem q hq
                  · exact (s1.sn c (List.mem_cons_of_mem _ hc')).mono hsub
                exact s2.perm List.perm_middle.symm
          · exact s
        obtain ⟨Fe, E, re, st⟩ := gatherFr hc sr a
        have nd := st.nd
        have z := st.sn _ List.mem_cons_self
        cases id st.ex with
        | @rt _ ws _ _ E1 hp' e1 =>
          obtain ⟨a', ws', dz, F, h1, h2, h3, h4⟩ := z
          cases h1
          cases h2
          rw [hp] at h3
          cases h3
          obtain ⟨F', F2, r', _, _⟩ := sel _ F Fe hide_same h4 re
          have pin : p ∈ p :: E1 := List.mem_cons_self
          have pE1 : p ∉ E1 := (List.nodup_cons.mp nd).1
          refine ⟨.rt, w, p :: E1, .rt upd_same (e1.upd hp pE1), nd, st.nw, by rw [hide_upd_in pin]; exact st.sm, grow st.gr hb, fun c hc0 => ?_⟩
          rcases List.mem_cons.mp hc0 with rfl | hm
          · exact ⟨p, vs', ds', F', rfl, rfl, upd_same, by rw [hide_upd_in pin]; exact r'⟩
          · have z := st.sn c (List.mem_cons_of_mem _ hm)
            have nbc := nb c hm
            obtain ⟨v', k', d'⟩ := c
            cases k' with
            | un => trivial
            | fr => obtain ⟨Fz, z⟩ := z; exact ⟨Fz, by rw [hide_upd_in pin]; exact z⟩
            | br => exact absurd rfl nbc
            | ro => show Dp K (hide (upd H p (.lst vs')) _) v' d'; rw [hide_upd_in pin]; exact z
            | rt =>
              obtain ⟨a, ws, dz, Fz, h1, h2, h3, h4⟩ := z
              refine ⟨a, ws, dz, Fz, h1, h2, ?_, by rw [hide_upd_in pin]; exact h4⟩
              have na : a ≠ p := by
                rintro rfl
                exact pE1 (rt_mem e1 _ hm rfl _ h1)
              rw [upd_ne na]
              exact h3
            | io => trivial
end
end PL
namespace PL
open PySem PySem.Spec L2

section
variable {K : PySem.W.Frag} {wa wb wc : WE} {wt wu : WT} {was wr : WA} {ta tb tc te : TE} {tt tu : TT} {t tr : TA}
theorem lift_nil : LiftA K tNil wNil := fun G H σ ρ L Q Qp ok s h q => q [] H ρ [] [] ok .nil s h
theorem lift_cons (la : LiftE K ta wa) (lr : LiftA K tr wr) : LiftA K (tCons ta tr) (wCons wa wr) := by
  intro G H σ ρ L Q Qp ok s h q
  refine la G H σ ρ L _ _ ok s h fun v H1 ρ1 k x ok1 s1 h1 => ?_
  refine lr G H1 σ ρ1 (⟨v, k, x⟩ :: L) _ _ ok1 (s1.perm List.perm_middle.symm) h1 fun vs H2 ρ2 ds cs ok2 hc s2 h2 => ?_
  refine q (v :: vs) H2 ρ2 _ (⟨v, k, x⟩ :: cs) ok2 (.cons hc) ?_ h2
  exact s2.perm ((List.Perm.append_left cs List.perm_middle).trans List.perm_middle)
theorem lift_tup (l : LiftA K t was) : LiftE K (tTup t) (wTup was) := by
  intro G H σ ρ L Q Qp ok s h q
  refine l G H σ ρ L _ _ ok s h fun vs H1 ρ1 ds cs ok1 hc s1 h1 => ?_
  refine ⟨by rw [hc.len]; exact h1.1, fun p hp => ?_⟩
  obtain ⟨k, qk, s2⟩ := mkTup hc s1 h1.2 hp
  exact q _ _ _ k _ ok1 s2 qk
theorem lift_lst (l : LiftA K t was) : LiftE K (tLst t) (wLst was) := by
  intro G H σ ρ L Q Qp ok s h q
  refine l G H σ ρ L _ _ ok s h fun vs H1 ρ1 ds cs ok1 hc s1 h1 => ?_
  refine ⟨by rw [hc.len]; exact h1.1, fun p hp => ?_⟩
  obtain ⟨k, qk, s2⟩ := mkLst hc s1 h1.2 hp
  exact q _ _ _ k _ ok1 s2 qk
theorem lift_tand (la : LiftT K tt wt) (lb : LiftT K tu wu) : LiftT K (tAnd tt tu) (wTAnd wt wu) := by
  intro G H σ ρ L Q Qp ok s h q
  refine la G H σ ρ L _ _ ok s h fun c H1 ρ1 ok1 s1 h1 => ?_
  cases c with
  | true => rw [if_pos rfl] at h1 ⊢; exact lb G H1 σ ρ1 L _ _ ok1 s1 h1 q
  | false => rw [if_neg Bool.false_ne_true] at h1 ⊢; exact q _ H1 ρ1 ok1 s1 h1
theorem lift_tor (la : LiftT K tt wt) (lb : LiftT K tu wu) : LiftT K (tOr tt tu) (wTOr wt wu) := by
  intro G H σ ρ L Q Qp ok s h q
  refine la G H σ ρ L _ _ ok s h fun c H1 ρ1 ok1 s1 h1 => ?_
  cases c with
  | true => rw [if_pos rfl] at h1 ⊢; exact q _ H1 ρ1 ok1 s1 h1
  | false => rw [if_neg Bool.false_ne_true] at h1 ⊢; exact lb G H1 σ ρ1 L _ _ ok1 s1 h1 q
theorem lift_tnot (l : LiftT K tt wt) : LiftT K (tNot tt) (wTNot wt) := fun G H σ ρ L Q Qp ok s h q => l G H σ ρ L _ _ ok s h fun c H1 ρ1 ok1 s1 h1 => q _ H1 ρ1 ok1 s1 h1
theorem lift_and (la : LiftE K ta wa) (lb : LiftE K tb wb) : LiftE K (tAndV ta tb) (wAnd wa wb) := by
  intro G H σ ρ L Q Qp ok s h q
  refine la G H σ ρ L _ _ ok s h fun v H1 ρ1 k d ok1 s1 h1 => ?_
  have dv := s1.dp
  unfold boo at h1
  split at h1
  · cases dv; exact ⟨_, rfl, by rw [if_pos rfl]; exact lb G H1 σ ρ1 L _ _ ok1 s1.drop h1 q⟩
  · cases dv; exact ⟨_, rfl, by rw [if_neg Bool.false_ne_true]; exact q _ H1 ρ1 .un _ ok1 (s1.drop.scal (.bl _)) h1⟩
  · exact h1.elim
theorem lift_or (la : LiftE K ta wa) (lb : LiftE K tb wb) : LiftE K (tOrV ta tb) (wOr wa wb) := by
  intro G H σ ρ L Q Qp ok s h q
  refine la G H σ ρ L _ _ ok s h fun v H1 ρ1 k d ok1 s1 h1 => ?_
  have dv := s1.dp
  unfold boo at h1
  split at h1
  · cases dv; exact ⟨_, rfl, by rw [if_pos rfl]; exact q _ H1 ρ1 .un _ ok1 (s1.drop.scal (.bl _)) h1⟩
  · cases dv; exact ⟨_, rfl, by rw [if_neg Bool.false_ne_true]; exact lb G H1 σ ρ1 L _ _ ok1 s1.drop h1 q⟩
  · exact h1.elim
theorem lift_not (l : LiftE K ta wa) : LiftE K (tNotV ta) (wNot wa) := by
  intro G H σ ρ L Q Qp ok s h q
  refine l G H σ ρ L _ _ ok s h fun v H1 ρ1 k d ok1 s1 h1 => ?_
  have dv := s1.dp
  split at h1
  · cases dv; exact ⟨_, rfl, q _ H1 ρ1 .un _ ok1 (s1.drop.scal (.bl _)) h1⟩
  · exact h1.elim
theorem lift_neg (l : LiftE K ta wa) : LiftE K (tUn (rU fun i => .int (-i)) ta) (wNeg wa) := by
  intro G H σ ρ L Q Qp ok s h q
  refine l G H σ ρ L _ _ ok s h fun v H1 ρ1 k d ok1 s1 h1 => ?_
  have dv := s1.dp
  split at h1
  · cases dv; exact ⟨_, rfl, q _ H1 ρ1 .un _ ok1 (s1.drop.scal (.int _)) h1⟩
  · exact h1.elim
theorem lift_if (lc : LiftT K tt wt) (la : LiftE K ta wa) (lb : LiftE K tb wb) : LiftE K (tIf tt ta tb) (wIf wt wa wb) := by
  intro G H σ ρ L Q Qp ok s h q
  refine lc G H σ ρ L _ _ ok s h fun c H1 ρ1 ok1 s1 h1 => ?_
  cases c with
  | true => rw [if_pos rfl] at h1 ⊢; exact la G H1 σ ρ1 L _ _ ok1 s1 h1 q
  | false => rw [if_neg Bool.false_ne_true] at h1 ⊢; exact lb G H1 σ ρ1 L _ _ ok1 s1 h1 q
theorem lift_isi {T : Nat} (hT : T < 5) (l : LiftE K ta wa) : LiftE K (tCB (rIsiX K) (tCons ta (tCons (tC (.ty (isiT T))) tNil))) (wIsi T wa) := by
  intro G H σ ρ L Q Qp ok s h q
  refine l G H σ ρ L _ _ ok s h fun v H1 ρ1 k d ok1 s1 h1 => ?_
  rcases dp_isi hT s1.dp with ⟨t, t1, t2⟩ | ⟨a, C, rfl, t1, t2, t3⟩
  · exact .inl ⟨v, .ty (isiT T), _, _, isi T d, rfl, .ty _, t1, t2, q _ H1 ρ1 .un _ ok1 (s1.drop.scal (.bl _)) h1⟩
  · exact .inr ⟨C, a, t2, t1, isi T d, .inl ⟨.ty (isiT T), .type (isiT T), rfl, .ty _, t3⟩, q _ H1 ρ1 .un _ ok1 (s1.drop.scal (.bl _)) h1⟩
theorem lift_noP : LiftP K tNoPart wNoP := fun G H σ ρ L Q Qp ok s h q => q none H ρ ok s h
theorem lift_soP (l : LiftE K ta wa) : LiftP K (tPart ta) (wSoP wa) := by
  intro G H σ ρ L Q Qp ok s h q
  refine l G H σ ρ L _ _ ok s h fun v H1 ρ1 k d ok1 s1 h1 => ?_
  have dv := s1.dp
  split at h1
  · cases dv; exact ⟨_, rfl, q _ H1 ρ1 ok1 s1.drop h1⟩
  · exact h1.elim
/-! ### what is walked -/
theorem lift_iL (l : LiftE K ta wa) : LiftI K (iList K ta) (wWalk false wa) := by
  intro G H σ ρ L R Qp ok s h q
  refine l G H σ ρ L _ _ ok s h fun v H1 ρ1 k d ok1 s1 h1 => ?_
  have dv := s1.dp
  split at h1
  · obtain ⟨a, rfl⟩ := dp_ref_l dv
    refine ⟨a, rfl, ?_, q _ H1 ρ1 _ _ ok1 kf_ne (s1.keep h1.1 h1.2.1) iterOk_list h1.2.2⟩
    cases dv with
    | lst hs _ => exact ⟨_, hs⟩
  · rename_i e; cases e
  · exact h1.elim
theorem lift_iT (l : LiftE K ta wa) : LiftI K (iTup K ta) (wWalk true wa) := by
  intro G H σ ρ L R Qp ok s h q
  refine l G H σ ρ L _ _ ok s h fun v H1 ρ1 k d ok1 s1 h1 => ?_
  have dv := s1.dp
  split at h1
  · rename_i e; cases e
  · obtain ⟨a, rfl⟩ := dp_ref_t dv
    refine ⟨a, rfl, ?_, q _ H1 ρ1 _ _ ok1 kf_ne (s1.keep h1.1 h1.2.1) iterOk_tup h1.2.2⟩
    cases dv with
    | tup hs _ => exact ⟨_, hs⟩
  · exact h1.elim
theorem lift_r1 (l : LiftA K t was) : LiftI K (iRng1 t) (wR1 was) := by
  intro G H σ ρ L R Qp ok s h q
  refine l G H σ ρ L _ _ ok s h fun vs H1 ρ1 ds cs ok1 hc s1 h1 => ?_
  split at h1
  · cases hc with
    | cons hc =>
      cases hc
      have d1 := s1.dp
      cases d1
      exact ⟨_, rfl, h1.1, h1.2.1, q _ H1 ρ1 _ _ ok1 (by intro z; cases z) (s1.drop.scal .non) iterOk_rng h1.2.2⟩
  · exact h1.elim
theorem lift_r2 (l : LiftA K t was) : LiftI K (iRng2 t) (wR2 was) := by
  intro G H σ ρ L R Qp ok s h q
  refine l G H σ ρ L _ _ ok s h fun vs H1 ρ1 ds cs ok1 hc s1 h1 => ?_
  split at h1
  · cases hc with
    | cons hc =>
      cases hc with
      | cons hc =>
        cases hc
        have d1 := s1.dp
        have d2 := s1.drop.dp
        cases d1; cases d2
        exact ⟨_, _, rfl, h1.1, q _ H1 ρ1 _ _ ok1 (by intro z; cases z) (s1.drop.drop.scal .non) iterOk_rng h1.2⟩
  · exact h1.elim
theorem lift_r3 (l : LiftA K t was) : LiftI K (iRng3 t) (wR3 was) := by
  intro G H σ ρ L R Qp ok s h q
  refine l G H σ ρ L _ _ ok s h fun vs H1 ρ1 ds cs ok1 hc s1 h1 => ?_
  split at h1
  · obtain ⟨n, hr, h1⟩ := h1
    cases hc with
    | cons hc =>
      cases hc with
      | cons hc =>
        cases hc with
        | cons hc =>
          cases hc
          have d1 := s1.dp
          have d2 := s1.drop.dp
          have d3 := s1.drop.drop.dp
          cases d1; cases d2; cases d3
          exact ⟨_, _, _, n, rfl, hr, q _ H1 ρ1 _ _ ok1 (by intro z; cases z) (s1.drop.drop.drop.scal .non) iterOk_rng3 h1⟩
  · exact h1.elim
theorem lift_iRev (l : LiftE K ta wa) : LiftI K (iRev K (tCons ta tNil)) (wRev wa) := by
  intro G H σ ρ L R Qp ok s h q
  refine l G H σ ρ L _ _ ok s h fun v H1 ρ1 k d ok1 s1 h1 => ?_
  have dv := s1.dp
  split at h1
  · rename_i ds
    obtain ⟨a, rfl⟩ := dp_ref_l dv
    have fin := q (Itv K a ds.length) H1 ρ1 _ _ ok1 kf_ne (s1.keep h1.1 h1.2.1) iterOk_rev h1.2.2
    cases dv with
    | lst hs hall => exact ⟨a, _, rfl, hs, by rw [dpAll_len hall]; exact fin⟩
  · exact h1.elim
/-- enumerate(list) -/
def wEnum (w : WE) : WI := fun ρ Q => w ρ fun ρ1 k d => match d with
  | .list ds => k ≠ .br ∧ k ≠ .io ∧ Q ρ1 (ds.mapIdx fun i d => (if flat d then .un else (if kf k = .ro then .br else .fr), .tuple [.int (i : Nat), d]))
  | _ => False
theorem iterOk_enum {a : Addr} {k : Kd} {ds : List PyData} (hro : kf k = .fr ∨ flats ds = true) : IterOk K (Ite K a) ⟨.ref a, kf k, .list ds⟩ (ds.mapIdx fun i d => (if flat d then .un else (if kf k = .ro then .br else .fr), .tuple [.int (i : Nat), d])) := by
  refine ⟨fun i H G M hi s => ?_, fun H G M s => ?_, fun i H G M x H' hi s hy => ?_⟩
  · have dp := s.dp
    have hi : i < ds.length := by simpa using hi
    cases dp with
    | lst hs ha =>
      obtain ⟨v, hv, _⟩ := dpAll_get ha (j := i) (List.getElem?_eq_getElem hi)
      exact ⟨_, v, hs, hv⟩
  · have dp := s.dp
    cases dp with
    | lst hs ha => exact ⟨_, hs, by rw [dpAll_len ha]; simp⟩
  · have hi : i < ds.length := by simpa using hi
    obtain ⟨T, y, rfl, hT, rfl, hy⟩ := hy
    have s2 := s.look
    rw [kv_kf] at s2
    obtain ⟨xs, u, h1, h2, h3⟩ := St0.item false s2 (atI_nat (List.getElem?_eq_getElem hi))
    have e := hy xs h1
    have e2 := atI_nat' h2
    rw [e] at e2
    have : y = u := Option.some.inj e2
    subst this
    have s4 : St0 K H G (⟨.int (i : Nat), .un, .int (i : Nat)⟩ :: ⟨y, kp (kf k) ds[i], ds[i]⟩ :: ⟨.ref a, kf k, .list ds⟩ :: M) := h3.scal (.int _)
    have hc : Cels [.int (i : Nat), y] [(.un, .int (i : Nat)), (kp (kf k) ds[i], ds[i])] [⟨.int (i : Nat), .un, .int (i : Nat)⟩, ⟨y, kp (kf k) ds[i], ds[i]⟩] := .cons (.cons .nil)
    have fl : flats ds = true → flat ds[i] = true := fun f => by
      have go : ∀ {l : List PyData} {j : Nat} (h : j < l.length), flats l = true → flat l[j] = true := by
        intro l
        induction l with
        | nil => intro j h; simp at h
        | cons d l ih =>
          intro j h f
          simp only [flats, Bool.and_eq_true] at f
          cases j with
          | zero => exact f.1
          | succ j => exact ih (by simpa using h) f.2
      exact go hi f
    have key : wDisp [(.un, .int (i : Nat)), (kp (kf k) ds[i], ds[i])] (fun k' => k' = if flat ds[i] then .un else (if kf k = .ro then .br else .fr)) := by
      unfold wDisp allUn allFr kp
      by_cases f : flat ds[i] = true
      · simp [f]
      · have hk : kf k = .fr := hro.elim id fun z => absurd (fl z) f
        simp [f, hk]
    obtain ⟨k', ek, s5⟩ := mkTup (Q := fun k' => k' = if flat ds[i] then .un else (if kf k = .ro then .br else .fr)) hc (L := ⟨.ref a, kf k, .list ds⟩ :: M) s4 key hT
    subst ek
    exact ⟨_, _, by simp [hi], s5⟩
theorem lift_enum (l : LiftE K ta wa) : LiftI K (iEnum K (tCons ta tNil)) (fun ρ Q => wEnum wa ρ fun ρ1 ds => (∀ s ∈ ds, s.1 ≠ .br) ∧ Q ρ1 ds) := by
  intro G H σ ρ L R Qp ok s h q
  refine l G H σ ρ L _ _ ok s h fun v H1 ρ1 k d ok1 s1 h1 => ?_
  have dv := s1.dp
  split at h1
  · rename_i ds
    obtain ⟨a, rfl⟩ := dp_ref_l dv
    obtain ⟨hk, hio, hbr, h1⟩ := h1
    have hro : kf k = .fr ∨ flats ds = true := by
      by_cases z : kf k = .ro
      · right
        have go : ∀ {l : List PyData}, (∀ d ∈ l, flat d = true) → flats l = true := by
          intro l
          induction l with
          | nil => intro _; rfl
          | cons d l ih => intro h; simp [flats, h d List.mem_cons_self, ih fun x hx => h x (List.mem_cons_of_mem _ hx)]
        refine go fun d hd => ?_
        obtain ⟨i, hi, e⟩ := List.mem_iff_getElem.mp hd
        have m := hbr _ (List.mem_iff_getElem.mpr ⟨i, by simpa using hi, rfl⟩)
        simp only [List.getElem_mapIdx, z, if_true] at m
        rw [e] at m
        by_cases f : flat d = true
        · exact f
        · rw [if_neg f] at m; exact absurd rfl m
      · left
        cases k <;> first | rfl | exact absurd rfl z
    have fin := q (Ite K a) H1 ρ1 _ _ ok1 kf_ne (s1.keep hk hio) (iterOk_enum hro) h1
    cases dv with
    | lst hs hall => exact ⟨a, _, rfl, hs, fin⟩
  · exact h1.elim
end
end PL
namespace PL
open PySem PySem.Spec L2

section
variable {K : PySem.W.Frag} {wa wb wc : WE} {wt wu : WT} {was wr : WA} {ta tb tc te : TE} {tt tu : TT} {t tr : TA} {ts us : TS} {w u : WS}
/-! ### statements -/
theorem lift_skip : LiftS K tNext wSkip := fun G H σ ρ L D κ hb nb ok s h q => q.nx σ H ρ ok s h
theorem lift_seq (l1 : LiftS K ts w) (l2 : LiftS K us u) : LiftS K (tSeq ts us) (wSeq w u) := fun G H σ ρ L D κ hb nb ok s h q => l1 G H σ ρ L _ _ hb nb ok s h (q.seq l2 hb nb)
theorem lift_never : LiftS K tNever wNever := fun _ _ _ _ _ _ _ _ _ _ _ h _ => h.elim
theorem lift_drop (l : LiftE K ta wa) : LiftS K (tDrop ta) (wDrop wa) := fun G H σ ρ L D κ hb nb ok s h q => l G H σ ρ L _ _ ok s h fun v H1 ρ1 k d ok1 s1 h1 => q.nx σ H1 ρ1 ok1 s1.drop h1
theorem lift_ret (l : LiftE K ta wa) : LiftS K (tRet ta) (wRet wa) := fun G H σ ρ L D κ hb nb ok s h q => l G H σ ρ L _ _ ok s h fun v H1 ρ1 k d ok1 s1 h1 => q.rt v H1 k d s1.noenv h1
def wRetN : WS := fun κ ρ => κ.rt .un .none
theorem lift_retN : LiftS K tRetN wRetN := fun G H σ ρ L D κ hb nb ok s h q => q.rt .non H .un .none ((s.sub (M := lv σ ρ) (.refl _)).scal .non) h
theorem lift_ifS (lc : LiftT K tt wt) (la : LiftS K ts w) (lb : LiftS K us u) : LiftS K (tIfS tt ts us) (wIfS wt w u) := by
  intro G H σ ρ L D κ hb nb ok s h q
  refine lc G H σ ρ L _ _ ok s h fun b H1 ρ1 ok1 s1 h1 => ?_
  cases b with
  | true => rw [if_pos rfl] at h1 ⊢; exact la G H1 σ ρ1 L D κ hb nb ok1 s1 h1 q
  | false => rw [if_neg Bool.false_ne_true] at h1 ⊢; exact lb G H1 σ ρ1 L D κ hb nb ok1 s1 h1 q
/-! ### targets -/
theorem lift_gsNil : LiftGs K gNil gsNil := by
  intro G H σ ρ L vs ds cs Q Qp ok hc s h q
  unfold gsNil at h
  split at h
  · cases hc
    exact ⟨rfl, q σ H ρ ok s h⟩
  · exact h.elim
theorem lift_gsCons {g : TG} {gs : TGs} {wg : WG} {wgs : WGs} (l1 : LiftG K g wg) (l2 : LiftGs K gs wgs) : LiftGs K (gCons g gs) (gsCons wg wgs) := by
  intro G H σ ρ L vs ds cs Q Qp ok hc s h q
  unfold gsCons at h
  split at h
  · cases hc with
    | @cons v vs k d ds cs hc =>
      refine ⟨v, vs, rfl, ?_⟩
      refine l1 G H σ ρ (cs ++ L) v _ _ _ _ ok ?_ h fun σ1 H1 ρ1 ok1 s1 h1 => ?_
      · exact s.perm (List.Perm.cons _ perm3)
      · exact l2 G H1 σ1 ρ1 L vs _ cs _ _ ok1 hc (s1.perm perm3) h1 q
  · exact h.elim
theorem lift_gT {gs : TGs} {wgs : WGs} {n : Nat} (l : LiftGs K gs wgs) (hl : gsLen wgs n) : LiftG K (gSq K n gs) (gT wgs) := by
  intro G H σ ρ L v k d Q Qp ok s hw q
  unfold gT at hw
  split at hw
  · obtain ⟨p, xs, cs, rfl, h1, h2, h3, h4⟩ := s.items
    refine ⟨p, xs, rfl, .inl h1, ?_, l G H σ ρ L xs _ cs Q Qp ok h3 h4 hw q⟩
    have := hl _ _ _ hw
    rw [List.length_map] at this
    rw [h2, this]
  · obtain ⟨p, xs, cs, rfl, h1, h2, h3, h4⟩ := s.itemsL
    refine ⟨p, xs, rfl, .inr h1, ?_, l G H σ ρ L xs _ cs Q Qp ok h3 h4 hw q⟩
    have := hl _ _ _ hw
    rw [List.length_map] at this
    rw [h2, this]
  · exact hw.elim
theorem gsLen_cons {wg : WG} {wgs : WGs} {n : Nat} (h : gsLen wgs n) (hex : ∀ k d ρ (Q : Rho → Prop), wg k d ρ Q → ∃ ρ', Q ρ') : gsLen (gsCons wg wgs) (n + 1) := fun ds ρ Q hw => by
  unfold gsCons at hw
  split at hw
  · obtain ⟨ρ', h'⟩ := hex _ _ _ _ hw
    simp [h _ _ _ h']
  · exact hw.elim
theorem ex_gN {i : Nat} : ∀ k d ρ (Q : Rho → Prop), gN i k d ρ Q → ∃ ρ', Q ρ' := fun _ _ _ _ h => ⟨_, h.2⟩
theorem ex_gT {wgs : WGs} (h : ∀ ds ρ (Q : Rho → Prop), wgs ds ρ Q → ∃ ρ', Q ρ') : ∀ k d ρ (Q : Rho → Prop), gT wgs k d ρ Q → ∃ ρ', Q ρ' := fun k d ρ Q hw => by
  unfold gT at hw
  split at hw
  · exact h _ _ _ hw
  · exact h _ _ _ hw
  · exact hw.elim
theorem ex_gsNil : ∀ ds ρ (Q : Rho → Prop), gsNil ds ρ Q → ∃ ρ', Q ρ' := fun ds ρ Q h => by
  unfold gsNil at h
  split at h
  · exact ⟨_, h⟩
  · exact h.elim
theorem ex_gsCons {wg : WG} {wgs : WGs} (h1 : ∀ k d ρ (Q : Rho → Prop), wg k d ρ Q → ∃ ρ', Q ρ') (h2 : ∀ ds ρ (Q : Rho → Prop), wgs ds ρ Q → ∃ ρ', Q ρ') : ∀ ds ρ (Q : Rho → Prop), gsCons wg wgs ds ρ Q → ∃ ρ', Q ρ' := fun ds ρ Q h => by
  unfold gsCons at h
  split at h
  · obtain ⟨_, h'⟩ := h1 _ _ _ _ h
    exact h2 _ _ _ h'
  · exact h.elim
/-! ### what is borrowed is forgotten where something is changed -/
def drK (k : Kd) (d : PyData) : Option Sl := match k with
  | .un => some (.un, d)
  | .fr => some (.fr, d)
  | .br => none
  | .ro => some (.ro, d)
  | .rt => some (.rt, d)
  | .io => some (.io, d)
def drB : Rho → Rho
  | [] => []
  | none :: ρ => none :: drB ρ
  | some (k, d) :: ρ => drK k d :: drB ρ
def noB (c : Cel) : Bool := match c.k with
  | .br => false
  | _ => true
theorem drK_ne {k : Kd} {d : PyData} (h : k ≠ .br) : drK k d = some (k, d) := by cases k <;> first | rfl | exact absurd rfl h
theorem env_drB {σ : St} {ρ : Rho} (h : EnvOk σ ρ) : EnvOk σ (drB ρ) ∧ lv σ (drB ρ) = (lv σ ρ).filter noB := by
  induction h with
  | e0 => exact ⟨.e0, rfl⟩
  | @e1 v k d σ ρ hs h ih =>
    obtain ⟨i1, i2⟩ := ih
    by_cases q : k = .br
    · subst q
      refine ⟨.e2 i1, ?_⟩
      show lv (some v :: σ) (none :: drB ρ) = ((⟨v, .br, d⟩ : Cel) :: lv σ ρ).filter noB
      rw [lv_none, i2, List.filter_cons]
      rfl
    · have e : drB (some (k, d) :: ρ) = some (k, d) :: drB ρ := by show drK k d :: drB ρ = _; rw [drK_ne q]
      rw [e]
      refine ⟨.e1 hs i1, ?_⟩
      have hb : noB ⟨v, k, d⟩ = true := by unfold noB; cases k <;> first | rfl | exact absurd rfl q
      show (⟨v, k, d⟩ : Cel) :: lv σ (drB ρ) = ((⟨v, k, d⟩ : Cel) :: lv σ ρ).filter noB
      rw [i2, List.filter_cons, if_pos hb]
  | @e2 o σ ρ h ih =>
    refine ⟨.e2 ih.1, ?_⟩
    show lv (o :: σ) (none :: drB ρ) = _
    rw [lv_none, lv_none]
    exact ih.2
theorem nb_drB {σ : St} {ρ : Rho} (h : EnvOk σ ρ) : NoBr (lv σ (drB ρ)) := fun c hc z => by
  rw [(env_drB h).2] at hc
  have := (List.mem_filter.mp hc).2
  unfold noB at this
  rw [z] at this
  cases this
theorem filter_perm {α : Type} (f : α → Bool) : ∀ l : List α, ∃ M, l.Perm (M ++ l.filter f)
  | [] => ⟨[], .refl _⟩
  | a :: l => by
    obtain ⟨M, p⟩ := filter_perm f l
    cases q : f a
    · exact ⟨a :: M, by rw [List.filter_cons, q]; exact p.cons a⟩
    · exact ⟨M, by rw [List.filter_cons, if_pos q]; exact (p.cons a).trans List.perm_middle.symm⟩
theorem dr_perm {σ : St} {ρ : Rho} (h : EnvOk σ ρ) : ∃ M, (lv σ ρ).Perm (M ++ lv σ (drB ρ)) := by
  rw [(env_drB h).2]
  exact filter_perm _ _
theorem dr_get : ∀ {ρ : Rho} {i : Nat} {k : Kd} {d : PyData}, ρ[i]? = some (some (k, d)) → k ≠ .br → (drB ρ)[i]? = some (some (k, d))
  | [], i, k, d, e, _ => by simp at e
  | o :: ρ, 0, k, d, e, n => by
    have e : o = some (k, d) := by simpa using e
    subst e
    show (drK k d :: drB ρ)[0]? = _
    rw [drK_ne n]
    rfl
  | o :: ρ, i + 1, k, d, e, n => by
    have e : ρ[i]? = some (some (k, d)) := by simpa using e
    have := dr_get e n
    rcases o with _ | ⟨k', d'⟩ <;> exact this
theorem St0.drB {K : PySem.W.Frag} {H : Hp} {G : Gh} {σ : St} {ρ : Rho} {L cs : List Cel} (h : EnvOk σ ρ) (s : St0 K H G (cs ++ (lv σ ρ ++ L))) : St0 K H G (cs ++ (lv σ (PL.drB ρ) ++ L)) := by
  obtain ⟨M, p⟩ := dr_perm h
  refine s.sub (M := M) ?_
  refine ((p.append_right L).append_left cs).trans ?_
  rw [List.append_assoc]
  exact perm3
/-! ### a list of one's own, changed by a statement -/
def ownK : Kd → Bool
  | .un => true
  | .rt => true
  | .fr => false
  | .br => false
  | .ro => false
  | .io => true
theorem ownK_ne {k : Kd} (h : ownK k = true) : k ≠ .br := by rintro rfl; cases h
theorem ownK_or {k : Kd} (h : ownK k = true) : (k = .un ∨ k = .rt) ∨ k = .io := by cases k <;> first | exact .inl (.inl rfl) | exact .inl (.inr rfl) | exact .inr rfl | cases h
def isLst (ρ : Rho) (i : Nat) : Prop := match ρ[i]? with
  | some (some (_, .list _)) => True
  | _ => False
/-- x.method(args): the new items of the list at the name i -/
def wChg (i : Nat) (was : WA) (f : List PyData → List Sl → (List PyData → Prop) → Prop) : WS := fun κ ρ => isLst ρ i ∧ was ρ fun ρ1 es => match ρ1[i]? with
  | some (some (k, .list ds)) => ownK k = true ∧ f ds es fun ds' => wApp k es fun k' => κ.nx ((drB ρ1).set i (some (k', .list ds')))
  | _ => False
theorem St0.unIo {H : Hp} {G : Gh} {L : List Cel} {v : V} {d : PyData} (s : St0 K H G (⟨v, .un, d⟩ :: L)) (e : v = G.f.v) : St0 K H G (⟨v, .io, d⟩ :: L) := by
  obtain ⟨E, s⟩ := s
  have ex := s.ex
  cases id ex with
  | un r e' =>
    refine ⟨_, .io e r e', s.nd, s.nw, s.sm, s.gr, fun c hc => ?_⟩
    rcases List.mem_cons.mp hc with rfl | hc
    · trivial
    · exact s.sn c (List.mem_cons_of_mem _ hc)
theorem St0.ioUn {H : Hp} {G : Gh} {L : List Cel} {v : V} {d : PyData} (s : St0 K H G (⟨v, .io, d⟩ :: L)) : v = G.f.v ∧ St0 K H G (⟨v, .un, d⟩ :: L) := by
  obtain ⟨E, s⟩ := s
  have ex := s.ex
  cases id ex with
  | io q r e' =>
    refine ⟨q, _, .un r e', s.nd, s.nw, s.sm, s.gr, fun c hc => ?_⟩
    rcases List.mem_cons.mp hc with rfl | hc
    · trivial
    · exact s.sn c (List.mem_cons_of_mem _ hc)
theorem St0.chg2 {H : Hp} {G : Gh} {L : List Cel} {p : Addr} {k : Kd} {ds : List PyData} {us : List V} {es : List Sl} {cs : List Cel} (hc : Cels us es cs) (s : St0 K H G (cs ++ (⟨.ref p, k, .list ds⟩ :: L)))
    (hk : ownK k = true) (nb : NoBr L) (hb : G.b p = none) :
    ∃ vs, H p = some (.lst vs) ∧ vs.length = ds.length ∧ (∀ (i : Nat) (d : PyData), ds[i]? = some d → ∃ v, vs[i]? = some v ∧ Dp K H v d) ∧ ∀ vs' ds', Sel K H vs us vs' ds es ds' → ∀ Q, wApp k es Q → ∃ k', Q k' ∧ St0 K (upd H p (.lst vs')) G (⟨.ref p, k', .list ds'⟩ :: L) := by
  rcases ownK_or hk with hk | rfl
  · exact St0.chg hc s hk nb hb
  · obtain ⟨e, s1⟩ := (s.perm List.perm_middle).ioUn
    obtain ⟨vs, h1, h2, h3, h4⟩ := St0.chg hc (s1.perm List.perm_middle.symm) (.inl rfl) nb hb
    refine ⟨vs, h1, h2, h3, fun vs' ds' sel Q w => ?_⟩
    unfold wApp at w
    rw [if_pos (by rfl)] at w
    obtain ⟨k', q, s2⟩ := h4 vs' ds' sel (fun k' => k' = .un) (by
      unfold wApp
      rw [if_neg (by decide), if_pos (by rw [w.1]; rfl)])
    subst q
    exact ⟨.io, w.2, s2.unIo e⟩
/-- the state with the list at the name i taken out -/
theorem St0.own {H : Hp} {G : Gh} {σ : St} {ρ : Rho} {L cs : List Cel} {i : Nat} {k : Kd} {ds : List PyData} {us : List V} {es : List Sl} (ok : EnvOk σ ρ) (e : ρ[i]? = some (some (k, .list ds))) (hc : Cels us es cs) (s : St0 K H G (cs ++ (lv σ ρ ++ L))) (hk : ownK k = true)
    (nb : NoBr L) (hb : G.b = Hp0) (nbE : NoBr (lv σ ρ)) : ∃ p vs, σ[i]? = some (some (.ref p)) ∧ H p = some (.lst vs) ∧ vs.length = ds.length ∧ (∀ (i : Nat) (d : PyData), ds[i]? = some d → ∃ v, vs[i]? = some v ∧ Dp K H v d) ∧
      ∀ vs' ds', Sel K H vs us vs' ds es ds' → ∀ Q, wApp k es Q → ∃ k', Q k' ∧ EnvOk σ (ρ.set i (some (k', .list ds'))) ∧ St0 K (upd H p (.lst vs')) G (lv σ (ρ.set i (some (k', .list ds'))) ++ L) := by
  obtain ⟨v, e1, p1, ok2, f⟩ := ok.slot e
  have s1 : St0 K H G (cs ++ (⟨v, k, .list ds⟩ :: (lv σ (ρ.set i none) ++ L))) := s.perm ((p1.append_right L).append_left cs)
  obtain ⟨p, rfl⟩ := dp_ref_l (s1.perm List.perm_middle).dp
  have nb2 : NoBr (lv σ (ρ.set i none) ++ L) := fun c hc' => by
    rcases List.mem_append.mp hc' with h | h
    · exact nbE c (p1.symm.subset (List.mem_cons_of_mem _ h))
    · exact nb c h
  obtain ⟨vs, hp, hl, hg, fin⟩ := St0.chg2 hc s1 hk nb2 (by rw [hb]; rfl)
  refine ⟨p, vs, e1, hp, hl, hg, fun vs' ds' sel Q w => ?_⟩
  have key : ∃ k', (Q k' ∧ stK k' = true) ∧ St0 K (upd H p (.lst vs')) G (⟨.ref p, k', .list ds'⟩ :: (lv σ (ρ.set i none) ++ L)) := by
    refine fin vs' ds' sel (fun k' => Q k' ∧ stK k' = true) ?_
    unfold wApp at w ⊢
    split
    · rename_i h; rw [if_pos h] at w; exact ⟨w.1, w.2, rfl⟩
    · rename_i h
      rw [if_neg h] at w
      split
      · rename_i h; rw [if_pos h] at w; exact ⟨w, rfl⟩
      · rename_i h; rw [if_neg h] at w; exact ⟨w.1, w.2, rfl⟩
  obtain ⟨k', ⟨q1, q2⟩, s3⟩ := key
  obtain ⟨ok3, p3⟩ := f k' (.list ds') q2
  exact ⟨k', q1, ok3, s3.perm (p3.append_right L)⟩
theorem isLst_ty {H : Hp} {G : Gh} {σ : St} {ρ : Rho} {L : List Cel} {i : Nat} (ok : EnvOk σ ρ) (s : St0 K H G (lv σ ρ ++ L)) (h : isLst ρ i) : ∃ p, σ[i]? = some (some (.ref p)) ∧ tyV K "list" (.ref p) H := by
  unfold isLst at h
  split at h
  · rename_i k ds e
    obtain ⟨v, e1, p1, ok2, f⟩ := ok.slot e
    have dp := (s.perm (p1.append_right L)).dp
    cases dp with
    | lst hs ha => exact ⟨_, e1, .inl ⟨rfl, _, hs⟩⟩
  · exact h.elim
/-- a method with arguments -/
theorem lift_chg {i : Nat} {r : V → List V → Hp → VK → Prop} {f : List PyData → List Sl → (List PyData → Prop) → Prop} (l : LiftA K t was)
    (hr : ∀ (H : Hp) (p : Addr) (vs us : List V) (ds : List PyData) (es : List Sl) (Q : VK) (Qp : List PyData → Prop), H p = some (.lst vs) → vs.length = ds.length → ArgsOk K H us (es.map ak) → us.length = es.length → f ds es Qp →
      (∀ v vs' ds', Sel K H vs us vs' ds es ds' → Qp ds' → Q v (upd H p (.lst vs'))) → r (.ref p) us H Q) :
    LiftS K (tDrop (tBM K "list" r (tVar i) t)) (wChg i was f) := by
  intro G H σ ρ L D κ hb nb ok s h q
  obtain ⟨h0, h⟩ := h
  obtain ⟨p, e0, ty⟩ := isLst_ty ok s h0
  refine ⟨_, e0, ty, ?_⟩
  refine l G H σ ρ L _ _ ok s h fun vs H1 ρ1 es cs ok1 hc s1 h1 => ?_
  split at h1
  · rename_i k ds e
    obtain ⟨hk, h1⟩ := h1
    obtain ⟨p', ws, e2, hp, hl, _, fin⟩ := St0.own (env_drB ok1).1 (dr_get e (ownK_ne hk)) hc (s1.drB ok1) hk nb hb (nb_drB ok1)
    rw [e0] at e2
    cases e2
    refine hr H1 p ws vs ds es _ _ hp hl (argsOk_of hc s1) hc.len h1 fun v vs' ds' sel hq => ?_
    obtain ⟨k', q1, ok2, s2⟩ := fin vs' ds' sel _ hq
    exact q.nx σ _ _ ok2 s2 q1
  · exact h1.elim
theorem lift_chg0 {i : Nat} {r : V → List V → Hp → VK → Prop} {f : List PyData → List Sl → (List PyData → Prop) → Prop}
    (hr : ∀ (H : Hp) (p : Addr) (vs : List V) (ds : List PyData) (Q : VK) (Qp : List PyData → Prop), H p = some (.lst vs) → vs.length = ds.length → f ds [] Qp →
      (∀ v vs' ds', Sel K H vs [] vs' ds [] ds' → Qp ds' → Q v (upd H p (.lst vs'))) → r (.ref p) [] H Q) :
    LiftS K (tDrop (tBM0 K "list" r (tVar i))) (wChg i wNil f) := by
  intro G H σ ρ L D κ hb nb ok s h q
  obtain ⟨h0, h⟩ := h
  obtain ⟨p, e0, ty⟩ := isLst_ty ok s h0
  refine ⟨_, e0, ty, ?_⟩
  have h1 : (match ρ[i]? with
    | some (some (k, .list ds)) => ownK k = true ∧ f ds [] fun ds' => wApp k [] fun k' => κ.nx ((drB ρ).set i (some (k', .list ds')))
    | _ => False) := h
  split at h1
  · rename_i k ds e
    obtain ⟨hk, h1⟩ := h1
    obtain ⟨p', ws, e2, hp, hl, _, fin⟩ := St0.own (cs := []) (env_drB ok).1 (dr_get e (ownK_ne hk)) .nil (s.drB (cs := []) ok) hk nb hb (nb_drB ok)
    rw [e0] at e2
    cases e2
    refine hr H p ws ds _ _ hp hl h1 fun v vs' ds' sel hq => ?_
    obtain ⟨k', q1, ok2, s2⟩ := fin vs' ds' sel _ hq
    exact q.nx σ _ _ ok2 s2 q1
  · exact h1.elim
def fApp : List PyData → List Sl → (List PyData → Prop) → Prop := fun ds es Q => match es with
  | [(_, d)] => ds.length < sizeLine ∧ Q (ds ++ [d])
  | _ => False
theorem sel_app {H0 : Hp} {vs : List V} {ds : List PyData} {v : V} {k : Kd} {d : PyData} : Sel K H0 vs [v] (vs ++ [v]) ds [(k, d)] (ds ++ [d]) := fun H F Fe _ r re =>
  ⟨F ++ Fe, Fe ++ F, rxAll_app r re, .refl _, List.perm_append_comm⟩
theorem lift_append {i : Nat} (l : LiftA K t was) : LiftS K (tDrop (tBM K "list" rAppend (tVar i) t)) (wChg i was fApp) := by
  refine lift_chg l fun H p vs us ds es Q Qp hp hl ha hlen hf q => ?_
  unfold fApp at hf
  split at hf
  · cases us with
    | nil => simp at hlen
    | cons v us =>
      cases us with
      | cons _ _ => simp at hlen
      | nil => exact ⟨p, vs, v, rfl, rfl, hp, by rw [hl]; exact hf.1, q _ _ _ sel_app hf.2⟩
  · exact hf.elim
def fIns : List PyData → List Sl → (List PyData → Prop) → Prop := fun ds es Q => match es with
  | [(_, .int i), (_, d)] => ds.length < sizeLine ∧ 0 ≤ i ∧ i < 2 ^ 63 ∧ Q (ds.take i.toNat ++ [d] ++ ds.drop i.toNat)
  | _ => False
theorem rxAll_take2 {H : Hp} : ∀ {vs : List V} {ds : List PyData} {F : List Addr} (n : Nat), RxAll K H vs ds F → ∃ F1 F2, RxAll K H (vs.take n) (ds.take n) F1 ∧ RxAll K H (vs.drop n) (ds.drop n) F2 ∧ F1 ++ F2 = F
  | _, _, _, 0, r => ⟨[], _, .nil, r, rfl⟩
  | _, _, _, _ + 1, .nil => ⟨[], [], .nil, .nil, rfl⟩
  | _, _, _, n + 1, .cons r s => by
    obtain ⟨F1, F2, a, b, e⟩ := rxAll_take2 n s
    refine ⟨_, F2, .cons r a, b, ?_⟩
    rw [List.append_assoc, e]
theorem sel_ins {H0 : Hp} {vs : List V} {ds : List PyData} {u v : V} {k0 k : Kd} {n : Int} {d : PyData} : Sel K H0 vs [u, v] (vs.take n.toNat ++ [v] ++ vs.drop n.toNat) ds [(k0, .int n), (k, d)] (ds.take n.toNat ++ [d] ++ ds.drop n.toNat) := fun H F Fe _ r re => by
  cases re with
  | cons r1 re =>
    cases r1
    cases re with
    | @cons _ _ _ _ Fv Fn rv rn =>
      cases rn
      obtain ⟨F1, F2, a, b, e⟩ := rxAll_take2 n.toNat r
      refine ⟨(F1 ++ (Fv ++ [])) ++ F2, Fv ++ F, rxAll_app (rxAll_app a (.cons rv .nil)) b, ?_, ?_⟩
      · rw [List.append_nil]
        exact List.Sublist.refl _
      · rw [← e, List.append_nil, List.append_assoc]
        exact perm3
def tIns : V → List V → Hp → VK → Prop := fun x vs H Q => ∃ (l : Addr) (xs : List V) (i : Int) (y : V), x = .ref l ∧ vs = [.int i, y] ∧ H l = some (.lst xs) ∧ xs.length < sizeLine ∧ 0 ≤ i ∧ i < 2 ^ 63 ∧
    Q .non (upd H l (.lst (xs.take i.toNat ++ [y] ++ xs.drop i.toNat)))
theorem lift_insert {i : Nat} (l : LiftA K t was) : LiftS K (tDrop (tBM K "list" tIns (tVar i) t)) (wChg i was fIns) := by
  refine lift_chg l fun H p vs us ds es Q Qp hp hl ha hlen hf q => ?_
  unfold fIns at hf
  split at hf
  · rename_i k0 n k d
    cases us with
    | nil => simp at hlen
    | cons u us =>
      cases us with
      | nil => simp at hlen
      | cons v us =>
        cases us with
        | cons _ _ => simp at hlen
        | nil =>
          have hu : u = .int n := by
            rw [List.map_cons] at ha
            cases k0 with
            | ro => cases ha with | ro h _ => cases h; rfl
            | un => cases ha with | fr h _ => obtain ⟨_, h⟩ := h; cases h; rfl
            | fr => cases ha with | fr h _ => obtain ⟨_, h⟩ := h; cases h; rfl
            | br => cases ha with | fr h _ => obtain ⟨_, h⟩ := h; cases h; rfl
            | rt => cases ha with | fr h _ => obtain ⟨_, h⟩ := h; cases h; rfl
            | io => cases ha with | fr h _ => obtain ⟨_, h⟩ := h; cases h; rfl
          subst hu
          exact ⟨p, vs, n, v, rfl, rfl, hp, by rw [hl]; exact hf.1, hf.2.1, hf.2.2.1, q _ _ _ sel_ins hf.2.2.2⟩
  · exact hf.elim
def fPopA : List PyData → List Sl → (List PyData → Prop) → Prop := fun ds es Q => match es with
  | [(_, .int i)] => -(2 ^ 63) ≤ i ∧ i < 2 ^ 63 ∧ (∃ k, seqIndex? i ds.length = some k ∧ k < ds.length ∧ Q (ds.eraseIdx k))
  | _ => False
theorem rxAll_erase {H : Hp} : ∀ {vs : List V} {ds : List PyData} {F : List Addr} (n : Nat), RxAll K H vs ds F → ∃ F', RxAll K H (vs.eraseIdx n) (ds.eraseIdx n) F' ∧ F'.Sublist F
  | _, _, _, _, .nil => ⟨[], .nil, .refl _⟩
  | _, _, _, 0, .cons r s => ⟨_, s, List.sublist_append_right _ _⟩
  | _, _, _, n + 1, .cons r s => by
    obtain ⟨F1, a, e⟩ := rxAll_erase n s
    exact ⟨_, .cons r a, (List.Sublist.refl _).append e⟩
theorem lift_popA {i : Nat} (l : LiftA K t was) : LiftS K (tDrop (tBM K "list" rPopAt (tVar i) t)) (wChg i was fPopA) := by
  refine lift_chg l fun H p vs us ds es Q Qp hp hl ha hlen hf q => ?_
  unfold fPopA at hf
  split at hf
  · rename_i k0 n
    cases us with
    | nil => simp at hlen
    | cons u us =>
      cases us with
      | cons v us => simp at hlen
      | nil =>
        have hu : u = .int n := by
          rw [List.map_cons] at ha
          cases k0 with
          | ro => cases ha with | ro h _ => cases h; rfl
          | un => cases ha with | fr h _ => obtain ⟨_, h⟩ := h; cases h; rfl
          | fr => cases ha with | fr h _ => obtain ⟨_, h⟩ := h; cases h; rfl
          | br => cases ha with | fr h _ => obtain ⟨_, h⟩ := h; cases h; rfl
          | rt => cases ha with | fr h _ => obtain ⟨_, h⟩ := h; cases h; rfl
          | io => cases ha with | fr h _ => obtain ⟨_, h⟩ := h; cases h; rfl
        subst hu
        obtain ⟨h1, h2, k, hk, lt, hq⟩ := hf
        refine ⟨p, vs, n, k, vs[k]'(by omega), rfl, rfl, hp, h1, h2, by rw [hl]; exact hk, List.getElem?_eq_getElem _, q _ _ _ (fun H F Fe _ r re => ?_) hq⟩
        obtain ⟨F', a, e⟩ := rxAll_erase k r
        exact ⟨F', F', a, e.trans (List.sublist_append_right _ _), .refl _⟩
  · exact hf.elim
def fClr : List PyData → List Sl → (List PyData → Prop) → Prop := fun _ _ Q => Q []
theorem lift_clear {i : Nat} : LiftS K (tDrop (tBM0 K "list" rClear (tVar i))) (wChg i wNil fClr) := by
  refine lift_chg0 fun H p vs ds Q Qp hp hl hf q => ?_
  exact ⟨p, vs, rfl, rfl, hp, q _ [] [] (fun H F Fe _ r re => ⟨[], [], .nil, List.nil_sublist _, .refl _⟩) hf⟩
/-- xs.pop(), the thing not wanted -/
def fPop0 : List PyData → List Sl → (List PyData → Prop) → Prop := fun ds _ Q => 0 < ds.length ∧ Q ds.dropLast
theorem lift_pop0 {i : Nat} : LiftS K (tDrop (tBM0 K "list" rPop (tVar i))) (wChg i wNil fPop0) := by
  refine lift_chg0 fun H p vs ds Q Qp hp hl hf q => ?_
  obtain ⟨h0, hf⟩ := hf
  refine ⟨p, vs, vs[vs.length - 1]'(by omega), rfl, rfl, hp, List.getElem?_eq_getElem _, q _ vs.dropLast ds.dropLast (fun H F Fe _ r re => ?_) hf⟩
  rw [List.dropLast_eq_take, List.dropLast_eq_take, ← hl]
  obtain ⟨F1, F2, a, b, e⟩ := rxAll_take2 (vs.length - 1) r
  refine ⟨F1, F1, a, ?_, .refl _⟩
  rw [← e]
  exact (List.sublist_append_left _ _).trans (List.sublist_append_right _ _)
/-- xs.extend(ys) -/
def fExt : List PyData → List Sl → (List PyData → Prop) → Prop := fun ds es Q => match es with
  | [(k, .list zs)] => k ≠ .ro ∧ ds.length + zs.length ≤ sizeLine ∧ Q (ds ++ zs)
  | _ => False
theorem lift_extend {i : Nat} (l : LiftA K t was) : LiftS K (tDrop (tBM K "list" rExtend (tVar i) t)) (wChg i was fExt) := by
  refine lift_chg l fun H p vs us ds es Q Qp hp hl ha hlen hf q => ?_
  unfold fExt at hf
  split at hf
  · rename_i k zs
    obtain ⟨nro, hz, hf⟩ := hf
    have e : ak (k, .list zs) = (.fr, .list zs) := by cases k <;> first | rfl | exact absurd rfl nro
    rw [List.map_cons, List.map_nil, e] at ha
    cases ha with
    | fr hx hn =>
      cases hn
      obtain ⟨F, hx⟩ := hx
      cases hx with
      | @lst b ws _ F' hb hw =>
        refine ⟨p, b, vs, ws, rfl, rfl, hp, hb, by rw [hl, rxAll_len hw]; exact hz, q _ _ (ds ++ zs) (fun H1 F1 Fe sm r re => ?_) hf⟩
        cases re with
        | cons r1 rn =>
          cases rn
          cases r1 with
          | @lst _ ws' _ F2 hb' hw' =>
            have := sm _ _ hb'
            rw [hb] at this
            cases this
            refine ⟨F1 ++ F2, F2 ++ F1, rxAll_app r hw', ?_, List.perm_append_comm⟩
            rw [List.append_nil]
            exact (List.sublist_cons_self b F2).append_right F1
  · exact hf.elim
/-- xs[i] = v -/
def wSet (i : Nat) (wa wi : WE) : WS := fun κ ρ => wa ρ fun ρ1 k d => isLst ρ1 i ∧ wi ρ1 fun ρ2 _ j => match ρ2[i]?, j with
  | some (some (k0, .list ds)), .int n => ownK k0 = true ∧ (match ixN ds.length n with
    | some m => wApp k0 [(k, d)] fun k' => κ.nx ((drB ρ2).set i (some (k', .list (ds.set m d))))
    | none => False)
  | _, _ => False
theorem rxAll_set {H : Hp} : ∀ {vs : List V} {ds : List PyData} {F Fu : List Addr} {m : Nat} {v : V} {d : PyData}, RxAll K H vs ds F → Rx K H v d Fu → m < ds.length → ∃ F' F2, RxAll K H (vs.set m v) (ds.set m d) F' ∧ F2.Sublist F ∧ F'.Perm (Fu ++ F2)
  | _, _, _, _, m, _, _, .nil, _, h => by simp at h
  | _, _, _, _, 0, _, _, .cons (F := F1) (F' := F2) r s, ru, _ => ⟨_, F2, .cons ru s, List.sublist_append_right _ _, .refl _⟩
  | _, _, _, Fu, m + 1, _, _, .cons (F := F1) (F' := F2) r s, ru, h => by
    obtain ⟨F', F3, h1, h2, h3⟩ := rxAll_set (m := m) s ru (by simpa using h)
    refine ⟨F1 ++ F', F1 ++ F3, .cons r h1, h2.append_left F1, ?_⟩
    exact (h3.append_left F1).trans perm3
theorem lift_set {i : Nat} {ti : TE} {wi : WE} (la : LiftE K ta wa) (li : LiftE K ti wi) : LiftS K (tAsg ta (gSub (tVar i) ti rSetL)) (wSet i wa wi) := by
  intro G H σ ρ L D κ hb nb ok s h q
  refine la G H σ ρ L _ _ ok s h fun v H1 ρ1 k d ok1 s1 h1 => ?_
  obtain ⟨h0, h1⟩ := h1
  obtain ⟨p0, e0, _⟩ := isLst_ty ok1 (s1.perm List.perm_middle.symm) h0
  refine ⟨_, e0, ?_⟩
  refine li G H1 σ ρ1 (⟨v, k, d⟩ :: L) _ _ ok1 (s1.perm List.perm_middle.symm) h1 fun j H2 ρ2 k2 dj ok2 s2 h2 => ?_
  have s3 : St0 K H2 G (⟨v, k, d⟩ :: (lv σ ρ2 ++ L)) := s2.drop.perm List.perm_middle
  have dj' := s2.dp
  split at h2
  · rename_i k0 ds n e
    cases dj'
    obtain ⟨hk, h2⟩ := h2
    split at h2
    · rename_i m em
      obtain ⟨p, ws, e2, hp, hl, _, fin⟩ := St0.own (cs := [⟨v, k, d⟩]) (us := [v]) (es := [(k, d)]) (env_drB ok2).1 (dr_get e (ownK_ne hk)) (.cons .nil) (s3.drB (cs := [⟨v, k, d⟩]) ok2) hk nb hb (nb_drB ok2)
      rw [e0] at e2
      cases e2
      have hm : m < ds.length := (ixN_seq em).2.1
      refine ⟨p0, ws, n, m, rfl, rfl, hp, by rw [hl]; exact em, ?_⟩
      obtain ⟨k', q1, ok3, s4⟩ := fin (ws.set m v) (ds.set m d) (fun H1 F Fe _ r re => by
        cases re with
        | cons r1 rn =>
          cases rn
          obtain ⟨F', F2, h1, h2, h3⟩ := rxAll_set r r1 hm
          exact ⟨F', _, h1, by rw [List.append_nil]; exact h2.append_left _, h3⟩) _ h2
      exact q.nx σ _ _ ok3 s4 q1
    · exact h2.elim
  · exact h2.elim
end
end PL
namespace PL
open PySem PySem.Spec L2

section
variable {K : PySem.W.Frag}
/-! ### comprehensions -/
def wipeR (ρ : Rho) : List Nat → Rho
  | [] => ρ
  | v :: vs => (wipeR ρ vs).set v none
theorem EnvOk.forget {σ : St} {ρ : Rho} (h : EnvOk σ ρ) : ∀ i, EnvOk σ (ρ.set i none) ∧ EnvOk (σ.set i none) (ρ.set i none) ∧ lv (σ.set i none) (ρ.set i none) = lv σ (ρ.set i none) ∧ ∃ M, (lv σ ρ).Perm (M ++ lv σ (ρ.set i none)) := by
  induction h with
  | e0 => intro i; exact ⟨.e0, .e0, rfl, [], .refl _⟩
  | @e1 v k d σ ρ hk h ih =>
    intro i
    cases i with
    | zero => exact ⟨.e2 h, .e2 h, rfl, [⟨v, k, d⟩], .refl _⟩
    | succ i =>
      obtain ⟨a, b, c, M, p⟩ := ih i
      refine ⟨.e1 hk a, .e1 hk b, ?_, M, ?_⟩
      · simp only [List.set_cons_succ, lv]; rw [c]
      · exact (p.cons _).trans List.perm_middle.symm
  | @e2 o σ ρ h ih =>
    intro i
    cases i with
    | zero => exact ⟨.e2 h, .e2 h, by simp only [List.set_cons_zero]; rw [lv_none, lv_none], [], .refl _⟩
    | succ i =>
      obtain ⟨a, b, c, M, p⟩ := ih i
      refine ⟨.e2 a, .e2 b, ?_, M, ?_⟩
      · simp only [List.set_cons_succ]; rw [lv_none, lv_none]; exact c
      · simp only [List.set_cons_succ]; rw [lv_none, lv_none]; exact p
theorem EnvOk.wipe {σ : St} {ρ : Rho} (h : EnvOk σ ρ) : ∀ vs, EnvOk σ (wipeR ρ vs) ∧ EnvOk (L2.wipe σ vs) (wipeR ρ vs) ∧ lv (L2.wipe σ vs) (wipeR ρ vs) = lv σ (wipeR ρ vs) ∧ ∃ M, (lv σ ρ).Perm (M ++ lv σ (wipeR ρ vs))
  | [] => ⟨h, h, rfl, [], .refl _⟩
  | v :: vs => by
    obtain ⟨a, b, c, M, p⟩ := EnvOk.wipe h vs
    obtain ⟨a1, a2, a3, M1, p1⟩ := a.forget v
    obtain ⟨b1, b2, b3, _, _⟩ := b.forget v
    refine ⟨a1, b2, ?_, M ++ M1, ?_⟩
    · show lv ((L2.wipe σ vs).set v none) ((wipeR ρ vs).set v none) = lv σ ((wipeR ρ vs).set v none)
      rw [b3]
      have go : ∀ {σ σ' : St} {ρ : Rho}, EnvOk σ ρ → EnvOk σ' ρ → lv σ ρ = lv σ' ρ → ∀ i, lv σ (ρ.set i none) = lv σ' (ρ.set i none) := by
        intro σ σ' ρ h
        induction h generalizing σ' with
        | e0 => intro h' e i; cases h'; rfl
        | @e1 v k d σ ρ hk h ih =>
          intro h' e i
          cases h' with
          | @e1 v' _ _ σ'' _ _ h' =>
            simp only [lv, List.cons.injEq, Cel.mk.injEq] at e
            obtain ⟨⟨rfl, _⟩, e⟩ := e
            cases i with
            | zero => simp only [List.set_cons_zero]; rw [lv_none, lv_none]; exact e
            | succ i => simp only [List.set_cons_succ, lv]; rw [ih h' e i]
        | @e2 o σ ρ h ih =>
          intro h' e i
          cases h' with
          | @e2 o' σ'' _ h' =>
            rw [lv_none, lv_none] at e
            cases i with
            | zero => simp only [List.set_cons_zero]; rw [lv_none, lv_none]; exact e
            | succ i => simp only [List.set_cons_succ]; rw [lv_none, lv_none]; exact ih h' e i
      exact go b a c v
    · rw [List.append_assoc]
      exact p.trans (p1.append_left M)
/-- a target writes within these slots -/
def TgIn (g : TG) (vs : List Nat) : Prop := ∀ v σ H (Q : St → Hp → Prop), g v σ H Q → g v σ H fun σ' H' => L2.wipe σ' vs = L2.wipe σ vs ∧ Q σ' H'
def TgsIn (g : TGs) (vs : List Nat) : Prop := ∀ xs σ H (Q : St → Hp → Prop), g xs σ H Q → g xs σ H fun σ' H' => L2.wipe σ' vs = L2.wipe σ vs ∧ Q σ' H'
theorem wipe_set {σ : St} {i : Nat} {v : Option V} : ∀ {vs : List Nat}, i ∈ vs → L2.wipe (σ.set i v) vs = L2.wipe σ vs
  | j :: vs, h => by
    show (L2.wipe (σ.set i v) vs).set j none = (L2.wipe σ vs).set j none
    by_cases e : i ∈ vs
    · rw [wipe_set e]
    · have hj : i = j := by
        rcases List.mem_cons.mp h with h | h
        · exact h
        · exact absurd h e
      subst hj
      have go : ∀ {vs : List Nat}, i ∉ vs → L2.wipe (σ.set i v) vs = (L2.wipe σ vs).set i v := by
        intro vs
        induction vs with
        | nil => intro _; rfl
        | cons k vs ih =>
          intro n
          show (L2.wipe (σ.set i v) vs).set k none = ((L2.wipe σ vs).set k none).set i v
          rw [ih (fun z => n (List.mem_cons_of_mem _ z)), List.set_comm]
          exact fun z => n (by rw [z]; exact List.mem_cons_self)
      rw [go e, List.set_set]
theorem tgIn_name {i : Nat} {vs : List Nat} (h : i ∈ vs) : TgIn (gName i) vs := fun v σ H Q hq => ⟨wipe_set h, hq⟩
theorem tgsIn_nil {vs : List Nat} : TgsIn gNil vs := fun xs σ H Q h => ⟨h.1, rfl, h.2⟩
theorem tgsIn_cons {g : TG} {gs : TGs} {vs : List Nat} (h1 : TgIn g vs) (h2 : TgsIn gs vs) (m1 : ∀ v σ H (Q Q' : St → Hp → Prop), (∀ σ H, Q σ H → Q' σ H) → g v σ H Q → g v σ H Q') (m2 : ∀ xs σ H (Q Q' : St → Hp → Prop), (∀ σ H, Q σ H → Q' σ H) → gs xs σ H Q → gs xs σ H Q') : TgsIn (gCons g gs) vs := fun xs σ H Q h => by
  obtain ⟨v, r, e, h⟩ := h
  refine ⟨v, r, e, ?_⟩
  refine m1 _ _ _ _ _ ?_ (h1 _ _ _ _ h)
  rintro σ1 H1 ⟨e1, q1⟩
  refine m2 _ _ _ _ _ ?_ (h2 _ _ _ _ q1)
  rintro σ2 H2 ⟨e2, q2⟩
  exact ⟨e2.trans e1, q2⟩
theorem tgIn_tup {gs : TGs} {n : Nat} {vs : List Nat} (h : TgsIn gs vs) : TgIn (gSq K n gs) vs := fun v σ H Q hq => by
  obtain ⟨a, xs, e, h1, h2, hq⟩ := hq
  exact ⟨a, xs, e, h1, h2, h _ _ _ _ hq⟩
theorem gName_mono {i : Nat} : ∀ v σ H (Q Q' : St → Hp → Prop), (∀ σ H, Q σ H → Q' σ H) → gName i v σ H Q → gName i v σ H Q' := fun v σ H Q Q' h q => h _ _ q
theorem gNil_mono : ∀ xs σ H (Q Q' : St → Hp → Prop), (∀ σ H, Q σ H → Q' σ H) → gNil xs σ H Q → gNil xs σ H Q' := fun xs σ H Q Q' h q => ⟨q.1, h _ _ q.2⟩
theorem gCons_mono {g : TG} {gs : TGs} (m1 : ∀ v σ H (Q Q' : St → Hp → Prop), (∀ σ H, Q σ H → Q' σ H) → g v σ H Q → g v σ H Q') (m2 : ∀ xs σ H (Q Q' : St → Hp → Prop), (∀ σ H, Q σ H → Q' σ H) → gs xs σ H Q → gs xs σ H Q') : ∀ xs σ H (Q Q' : St → Hp → Prop), (∀ σ H, Q σ H → Q' σ H) → gCons g gs xs σ H Q → gCons g gs xs σ H Q' := fun xs σ H Q Q' h q => by
  obtain ⟨v, r, e, q⟩ := q
  exact ⟨v, r, e, m1 _ _ _ _ _ (fun σ1 H1 q1 => m2 _ _ _ _ _ h q1) q⟩
theorem gTup_mono {gs : TGs} {n : Nat} (m : ∀ xs σ H (Q Q' : St → Hp → Prop), (∀ σ H, Q σ H → Q' σ H) → gs xs σ H Q → gs xs σ H Q') : ∀ v σ H (Q Q' : St → Hp → Prop), (∀ σ H, Q σ H → Q' σ H) → gSq K n gs v σ H Q → gSq K n gs v σ H Q' := fun v σ H Q Q' h q => by
  obtain ⟨a, xs, e, h1, h2, q⟩ := q
  exact ⟨a, xs, e, h1, h2, m _ _ _ _ _ h q⟩
/-- the words of a comprehension -/
def lcW (wg : WG) (wt : WT) (we : WE) (vs : List Nat) (Q : Kd → List PyData → Rho → Prop) : List Sl → Kd → List PyData → Rho → Prop
  | [], kd, acc, ρ => Q kd acc ρ
  | (k, d) :: r, kd, acc, ρ => wg k d ρ fun ρ2 => wt ρ2 fun ρ3 b => if b = true then we ρ3 fun ρ4 k' e => acc.length < sizeLine ∧ wApp kd [(k', e)] fun kd' => lcW wg wt we vs Q r kd' (acc ++ [e]) (drB (wipeR ρ4 vs))
      else lcW wg wt we vs Q r kd acc (wipeR ρ3 vs)
def finK : Kd → Kd
  | .rt => .fr
  | k => k
def wLc (wi : WI) (wg : WG) (wt : WT) (we : WE) (vs : List Nat) : WE := fun ρ Q => wi ρ fun ρ1 ds => lcW wg wt we vs (fun kd acc ρ' => Q ρ' (finK kd) (.list acc)) ds .un [] (wipeR ρ1 vs)
def noBr (L : List Cel) : List Cel := L.filter fun c => match c.k with | .br => false | _ => true
theorem NoBr.of (L : List Cel) : NoBr (noBr L) := fun c hc => by
  have h := (List.mem_filter.mp hc).2
  intro e
  rw [e] at h
  cases h
/-- what was borrowed is laid aside -/
theorem St0.aside {H : Hp} {G : Gh} : ∀ {L M : List Cel}, St0 K H G (M ++ L) → St0 K H ⟨G.g, H, G.f⟩ (M ++ noBr L) ∧ ∀ c ∈ L, c.k = .br → ∃ F, Rx K H c.v c.d F
  | [], M, s => by
    obtain ⟨E, s⟩ := s
    exact ⟨⟨E, s.ex, s.nd, s.nw, s.sm, Same.refl H, s.sn⟩, fun c hc => by simp at hc⟩
  | c :: L, M, s => by
    have s1 : St0 K H G (c :: (M ++ L)) := s.perm List.perm_middle
    by_cases hb : c.k = .br
    · obtain ⟨s2, h2⟩ := St0.aside (L := L) (M := M) s1.drop
      have e : noBr (c :: L) = noBr L := by
        unfold noBr
        rw [List.filter_cons]
        rw [hb]
        rfl
      rw [e]
      refine ⟨s2, fun c' hc hk => ?_⟩
      rcases List.mem_cons.mp hc with rfl | hc
      · exact s1.rx (by rw [hk]; intro z; cases z)
      · exact h2 c' hc hk
    · obtain ⟨s2, h2⟩ := St0.aside (L := L) (M := c :: M) s1
      have e : noBr (c :: L) = c :: noBr L := by
        unfold noBr
        rw [List.filter_cons]
        cases h : c.k <;> first | rfl | exact absurd h hb
      rw [e]
      refine ⟨s2.perm List.perm_middle.symm, fun c' hc hk => ?_⟩
      rcases List.mem_cons.mp hc with rfl | hc
      · exact absurd hk hb
      · exact h2 c' hc hk
theorem St0.back {H0 H : Hp} {G : Gh} (gr : Same G.b H0) : ∀ {L M : List Cel}, St0 K H ⟨G.g, H0, G.f⟩ (M ++ noBr L) → (∀ c ∈ L, c.k = .br → ∃ F, Rx K H0 c.v c.d F) → St0 K H G (M ++ L)
  | [], M, s, _ => by
    obtain ⟨E, s⟩ := s
    exact ⟨E, s.ex, s.nd, s.nw, s.sm, gr.trans s.gr, s.sn⟩
  | c :: L, M, s, h => by
    by_cases hb : c.k = .br
    · have e : noBr (c :: L) = noBr L := by
        unfold noBr
        rw [List.filter_cons]
        rw [hb]
        rfl
      rw [e] at s
      have sm : Same H0 H := by obtain ⟨E, s⟩ := s; exact s.gr
      have s2 := St0.back gr (L := L) (M := M) s fun c' hc => h c' (List.mem_cons_of_mem _ hc)
      obtain ⟨F, r⟩ := h c List.mem_cons_self hb
      have s3 : St0 K H G (c :: (M ++ L)) := by
        obtain ⟨E, s2⟩ := s2
        obtain ⟨v, k, d⟩ := c
        cases hb
        refine ⟨E, .br s2.ex, s2.nd, s2.nw, s2.sm, s2.gr, fun c hc => ?_⟩
        rcases List.mem_cons.mp hc with rfl | hc
        · exact ⟨F, r.same sm⟩
        · exact s2.sn c hc
      exact s3.perm List.perm_middle.symm
    · have e : noBr (c :: L) = c :: noBr L := by
        unfold noBr
        rw [List.filter_cons]
        cases h : c.k <;> first | rfl | exact absurd h hb
      rw [e] at s
      have s1 : St0 K H ⟨G.g, H0, G.f⟩ ((c :: M) ++ noBr L) := s.perm List.perm_middle
      have s2 := St0.back gr (L := L) (M := c :: M) s1 fun c' hc => h c' (List.mem_cons_of_mem _ hc)
      exact s2.perm List.perm_middle.symm
theorem lift_lcG {g : TG} {tt : TT} {te : TE} {wg : WG} {wt : WT} {we : WE} {vs : List Nat} (lg : LiftG K g wg) (hg : TgIn g vs) (hm : ∀ v σ H (Q Q' : St → Hp → Prop), (∀ σ H, Q σ H → Q' σ H) → g v σ H Q → g v σ H Q') (lt : LiftT K tt wt) (le : LiftE K te we)
    {G : Gh} {H1 : Hp} {σ : St} {ρ1 : Rho} {L : List Cel} {J : It} {ds : List Sl} {c : Cel} (ok1 : EnvOk σ ρ1) (hc : c.k ≠ .br) (s1 : St0 K H1 G (c :: (lv σ ρ1 ++ L))) (it : IterOk K J c ds) {Qf : Kd → List PyData → Rho → Prop}
    (h1 : lcW wg wt we vs Qf ds .un [] (wipeR ρ1 vs)) {Q : VK} (cl : ∀ H2 ρ2 kd es D, EnvOk σ ρ2 → St0 K H2 G ((c :: ⟨.ref D, finK kd, .list es⟩ :: lv σ ρ2) ++ L) → Qf kd es ρ2 → Q (.ref D) H2) :
    ∀ D, H1 D = none → ∃ W : Nat → Nat → Hp → Prop, (∃ m, W 0 m (upd H1 D (.lst []))) ∧ ∀ i m H, W i m H →
      (J.stop i H ∧ Q (.ref D) H) ∨ (J.go i H ∧ ∃ Nx : Hp → Prop, (∀ H', Nx H' → ∃ m', m' < m ∧ W (i + 1) m' H') ∧ ∀ x H', J.yld i H x H' → g x (L2.wipe σ vs) H' fun σ2 H2 => L2.wipe σ2 vs = L2.wipe σ vs ∧ tt σ2 H2 fun b H3 =>
        if b = true then te σ2 H3 fun y H4 => ∃ acc, H4 D = some (.lst acc) ∧ acc.length < sizeLine ∧ Nx (upd H4 D (.lst (acc ++ [y]))) else Nx H3) := by
  intro D hD
  obtain ⟨okw, okw2, elv, M, pm⟩ := ok1.wipe vs
  -- the frame without what is borrowed
  have s2 : St0 K H1 G (c :: (lv σ (wipeR ρ1 vs) ++ L)) := by
    have z : St0 K H1 G (M ++ (c :: (lv σ (wipeR ρ1 vs) ++ L))) := by
      refine s1.perm ?_
      refine (((pm.append_right L).cons c).trans ?_)
      rw [List.append_assoc]
      exact List.perm_middle.symm
    exact z.drops
  have gr : Same G.b H1 := by obtain ⟨E, z⟩ := s1; exact z.gr
  obtain ⟨s3, brs⟩ := St0.aside (M := c :: lv σ (wipeR ρ1 vs)) (L := L) s2
  have s4 : St0 K (upd H1 D (.lst [])) ⟨G.g, H1, G.f⟩ (⟨.ref D, .un, .list []⟩ :: c :: (lv σ (wipeR ρ1 vs) ++ noBr L)) := by
    have := s3.newUn (vs := []) (ds := []) .nil hD
    exact this
  -- the state: the new list, what is walked, the slots, the frame
  refine ⟨fun i m H => m = ds.length - i ∧ i ≤ ds.length ∧ ∃ ρ kd es, EnvOk σ ρ ∧ EnvOk (L2.wipe σ vs) ρ ∧ lv (L2.wipe σ vs) ρ = lv σ ρ ∧ (kd = .un ∨ kd = .rt) ∧ St0 K H ⟨G.g, H1, G.f⟩ (⟨.ref D, kd, .list es⟩ :: c :: (lv σ ρ ++ noBr L)) ∧
    lcW wg wt we vs Qf (ds.drop i) kd es ρ, ⟨ds.length, by simp, Nat.zero_le _, wipeR ρ1 vs, .un, [], okw, okw2, elv, .inl rfl, s4, h1⟩, ?_⟩
  rintro i m H2 ⟨rfl, hi, ρ2, kd, es, ok2, ok2w, elv2, hkd, s5, h2⟩
  have fz : ∀ {H : Hp} {es : List PyData} {M : List Cel}, St0 K H ⟨G.g, H1, G.f⟩ (⟨.ref D, kd, .list es⟩ :: M) → St0 K H ⟨G.g, H1, G.f⟩ (⟨.ref D, finK kd, .list es⟩ :: M) := fun s => by
    rcases hkd with rfl | rfl
    · exact s
    · exact s.freeze (.inr (.inr rfl))
  by_cases hlt : i < ds.length
  · obtain ⟨⟨k, d⟩, hd⟩ : ∃ x, ds[i]? = some x := ⟨_, List.getElem?_eq_getElem hlt⟩
    have s6 : St0 K H2 ⟨G.g, H1, G.f⟩ (c :: (⟨.ref D, kd, .list es⟩ :: (lv σ ρ2 ++ noBr L))) := s5.perm (.swap _ _ _)
    refine .inr ⟨it.go i H2 _ _ hlt s6, fun H' => i + 1 ≤ ds.length ∧ ∃ ρ kd es, EnvOk σ ρ ∧ EnvOk (L2.wipe σ vs) ρ ∧ lv (L2.wipe σ vs) ρ = lv σ ρ ∧ (kd = .un ∨ kd = .rt) ∧ St0 K H' ⟨G.g, H1, G.f⟩ (⟨.ref D, kd, .list es⟩ :: c :: (lv σ ρ ++ noBr L)) ∧
      lcW wg wt we vs Qf (ds.drop (i + 1)) kd es ρ, ?_, ?_⟩
    · rintro H' ⟨h3, h4⟩
      exact ⟨ds.length - (i + 1), by omega, rfl, h3, h4⟩
    · intro x H3 hy
      obtain ⟨k', d', hd', s7⟩ := it.yld i H2 _ _ x H3 hlt s6 hy
      rw [hd] at hd'
      cases hd'
      rw [drop_get hd] at h2
      -- the frame for the block: the list, what is walked, the rest
      have s8 : St0 K H3 ⟨G.g, H1, G.f⟩ (⟨x, k, d⟩ :: (lv (L2.wipe σ vs) ρ2 ++ (⟨.ref D, kd, .list es⟩ :: c :: noBr L))) := by
        rw [elv2]
        refine s7.perm (List.Perm.cons _ ?_)
        refine (List.Perm.swap _ _ _).trans ?_
        refine List.Perm.trans ?_ List.perm_middle.symm
        exact List.Perm.cons _ List.perm_middle.symm
      have ww : L2.wipe (L2.wipe σ vs) vs = L2.wipe σ vs := by
        have go : ∀ (us : List Nat), (∀ u ∈ us, u ∈ vs) → L2.wipe (L2.wipe σ us) vs = L2.wipe σ vs := by
          intro us
          induction us with
          | nil => intro _; rfl
          | cons u us ih =>
            intro hu
            show L2.wipe ((L2.wipe σ us).set u none) vs = _
            rw [wipe_set (hu u List.mem_cons_self)]
            exact ih fun z hz => hu z (List.mem_cons_of_mem _ hz)
        exact go vs fun _ h => h
      refine hm _ _ _ _ _ ?_ (hg _ _ _ _ (lg ⟨G.g, H1, G.f⟩ H3 (L2.wipe σ vs) ρ2 (⟨.ref D, kd, .list es⟩ :: c :: noBr L) x k d (fun σ2 H2 => ∃ ρ, EnvOk σ2 ρ ∧ St0 K H2 ⟨G.g, H1, G.f⟩ (lv σ2 ρ ++ (⟨.ref D, kd, .list es⟩ :: c :: noBr L)) ∧ _) _ ok2w s8 h2 fun σ4 H4 ρ4 ok4 s9 h4 => ⟨ρ4, ok4, s9, h4⟩))
      rintro σ4 H4 ⟨ew, ρ4, ok4, s9, h4⟩
      refine ⟨ew.trans ww, ?_⟩
      -- behind a turn the block's names are forgotten
      have fin : ∀ {H5 : Hp} {ρ5 : Rho}, EnvOk σ4 ρ5 → EnvOk (L2.wipe σ vs) (wipeR ρ5 vs) ∧ EnvOk σ (wipeR ρ5 vs) ∧ lv (L2.wipe σ vs) (wipeR ρ5 vs) = lv σ (wipeR ρ5 vs) ∧ ∃ M, (lv σ4 ρ5).Perm (M ++ lv σ (wipeR ρ5 vs)) := by
        intro H5 ρ5 ok5
        obtain ⟨a1, a2, a3, M, p⟩ := ok5.wipe vs
        rw [ew, ww] at a2 a3
        have up : ∀ {σ : St} {ρ : Rho} (us : List Nat), EnvOk (L2.wipe σ us) ρ → EnvOk σ ρ ∧ lv (L2.wipe σ us) ρ = lv σ ρ := by
          intro σ ρ us
          induction us generalizing ρ with
          | nil => intro h; exact ⟨h, rfl⟩
          | cons u us ih =>
            intro h
            have one : ∀ {σ : St} {ρ : Rho} {u : Nat}, EnvOk (σ.set u none) ρ → EnvOk σ ρ ∧ lv (σ.set u none) ρ = lv σ ρ := by
              intro σ
              induction σ with
              | nil => intro ρ u h; exact ⟨h, rfl⟩
              | cons o σ ih =>
                intro ρ u h
                cases u with
                | zero =>
                  simp only [List.set_cons_zero] at h ⊢
                  cases h with
                  | e2 h => exact ⟨.e2 h, by rw [lv_none, lv_none]⟩
                | succ u =>
                  simp only [List.set_cons_succ] at h ⊢
                  cases h with
                  | e1 hk h =>
                    obtain ⟨a, b⟩ := ih h
                    exact ⟨.e1 hk a, by simp only [lv]; rw [b]⟩
                  | e2 h =>
                    obtain ⟨a, b⟩ := ih h
                    exact ⟨.e2 a, by rw [lv_none, lv_none]; exact b⟩
            obtain ⟨a, b⟩ := one (σ := L2.wipe σ us) h
            obtain ⟨a', b'⟩ := ih a
            exact ⟨a', by show lv ((L2.wipe σ us).set u none) ρ = lv σ ρ; rw [b, b']⟩
        obtain ⟨b1, b2⟩ := up vs a2
        refine ⟨a2, b1, b2, M, ?_⟩
        have a3' : lv (L2.wipe σ vs) (wipeR ρ5 vs) = lv σ4 (wipeR ρ5 vs) := a3
        rw [← a3', b2] at p
        exact p
      refine lt ⟨G.g, H1, G.f⟩ H4 σ4 ρ4 _ _ _ ok4 s9 h4 fun b H5 ρ5 ok5 s10 h5 => ?_
      cases b with
      | true =>
        rw [if_pos rfl] at h5 ⊢
        refine le ⟨G.g, H1, G.f⟩ H5 σ4 ρ5 _ _ _ ok5 s10 h5 fun y H6 ρ6 k6 e6 ok6 s11 h6 => ?_
        obtain ⟨hz, h6⟩ := h6
        obtain ⟨f1, f2, f3, M6, p6⟩ := fin (H5 := H6) ok6
        have s12' : St0 K H6 ⟨G.g, H1, G.f⟩ ([⟨y, k6, e6⟩] ++ (⟨.ref D, kd, .list es⟩ :: (c :: (lv σ (wipeR ρ6 vs) ++ noBr L)))) := by
          have z : St0 K H6 ⟨G.g, H1, G.f⟩ (M6 ++ (⟨y, k6, e6⟩ :: ⟨.ref D, kd, .list es⟩ :: c :: (lv σ (wipeR ρ6 vs) ++ noBr L))) := by
            refine s11.perm ?_
            refine (List.Perm.cons _ (p6.append_right _)).trans ?_
            rw [List.append_assoc]
            refine List.perm_middle.symm.trans (List.Perm.append_left M6 (List.Perm.cons _ ?_))
            refine List.perm_middle.trans (List.Perm.cons _ ?_)
            exact List.perm_middle
          exact z.drops
        have f3' : lv (L2.wipe σ vs) (drB (wipeR ρ6 vs)) = lv σ (drB (wipeR ρ6 vs)) := by rw [(env_drB f1).2, (env_drB f2).2, f3]
        have s12 : St0 K H6 ⟨G.g, H1, G.f⟩ ([⟨y, k6, e6⟩] ++ (⟨.ref D, kd, .list es⟩ :: (c :: (lv σ (drB (wipeR ρ6 vs)) ++ noBr L)))) :=
          St0.drB (cs := [⟨y, k6, e6⟩, ⟨.ref D, kd, .list es⟩, c]) f2 s12'
        have nb : NoBr (c :: (lv σ (drB (wipeR ρ6 vs)) ++ noBr L)) := NoBr.cons hc fun c' hc' => by
          rcases List.mem_append.mp hc' with hc' | hc'
          · exact nb_drB f2 c' hc'
          · exact NoBr.of L c' hc'
        obtain ⟨ws, hp, hl, _, chg⟩ := St0.chg (us := [y]) (es := [(k6, e6)]) (.cons .nil) s12 hkd nb hD
        refine ⟨ws, hp, by rw [hl]; exact hz, hlt, ?_⟩
        have key : ∃ kd', (lcW wg wt we vs Qf (ds.drop (i + 1)) kd' (es ++ [e6]) (drB (wipeR ρ6 vs)) ∧ (kd' = .un ∨ kd' = .rt)) ∧ St0 K (upd H6 D (.lst (ws ++ [y]))) ⟨G.g, H1, G.f⟩ (⟨.ref D, kd', .list (es ++ [e6])⟩ :: (c :: (lv σ (drB (wipeR ρ6 vs)) ++ noBr L))) := by
          refine chg _ _ sel_app _ ?_
          unfold wApp at h6 ⊢
          rw [if_neg (by rcases hkd with rfl | rfl <;> (intro z; cases z))] at h6 ⊢
          split
          · rename_i z; rw [if_pos z] at h6; exact ⟨h6, .inl rfl⟩
          · rename_i z; rw [if_neg z] at h6; exact ⟨h6.1, h6.2, .inr rfl⟩
        obtain ⟨kd', ⟨g1, g2⟩, g3⟩ := key
        exact ⟨drB (wipeR ρ6 vs), kd', _, (env_drB f2).1, (env_drB f1).1, f3', g2, g3, g1⟩
      | false =>
        rw [if_neg Bool.false_ne_true] at h5 ⊢
        obtain ⟨f1, f2, f3, M6, p6⟩ := fin (H5 := H5) ok5
        refine ⟨hlt, wipeR ρ5 vs, kd, es, f2, f1, f3, hkd, ?_, h5⟩
        have z : St0 K H5 ⟨G.g, H1, G.f⟩ (M6 ++ (⟨.ref D, kd, .list es⟩ :: c :: (lv σ (wipeR ρ5 vs) ++ noBr L))) := by
          refine s10.perm ?_
          refine (p6.append_right _).trans ?_
          rw [List.append_assoc]
          refine List.Perm.append_left M6 ?_
          refine List.perm_middle.trans (List.Perm.cons _ ?_)
          exact List.perm_middle
        exact z.drops
  · have e : i = ds.length := by omega
    subst e
    rw [List.drop_length] at h2
    have s6 : St0 K H2 ⟨G.g, H1, G.f⟩ (c :: (⟨.ref D, kd, .list es⟩ :: (lv σ ρ2 ++ noBr L))) := s5.perm (.swap _ _ _)
    refine .inl ⟨it.stop H2 _ _ s6, ?_⟩
    have s7 : St0 K H2 ⟨G.g, H1, G.f⟩ ((c :: ⟨.ref D, finK kd, .list es⟩ :: lv σ ρ2) ++ noBr L) := (fz s5).perm (.swap _ _ _)
    exact cl H2 ρ2 kd es D ok2 (St0.back gr s7 brs) h2
theorem lift_lc {ti : TI} {g : TG} {tt : TT} {te : TE} {wi : WI} {wg : WG} {wt : WT} {we : WE} {vs : List Nat} (li : LiftI K ti wi) (lg : LiftG K g wg) (hg : TgIn g vs) (hm : ∀ v σ H (Q Q' : St → Hp → Prop), (∀ σ H, Q σ H → Q' σ H) → g v σ H Q → g v σ H Q') (lt : LiftT K tt wt) (le : LiftE K te we) :
    LiftE K (tLc ti g tt te vs) (wLc wi wg wt we vs) := by
  intro G H σ ρ L Q Qp ok s h q
  refine li G H σ ρ L _ _ ok s h fun J H1 ρ1 ds c ok1 hc s1 it h1 => ?_
  exact lift_lcG lg hg hm lt le ok1 hc s1 it h1 fun H2 ρ2 kd es D ok2 s2 h2 => q _ H2 ρ2 _ _ ok2 s2.drop h2
/-- a walk over a list of one's own without lists in it: it stays one's own -/
def wLcO (i : Nat) (wg : WG) (wt : WT) (we : WE) (vs : List Nat) : WE := fun ρ Q => match ρ[i]? with
  | some (some (.un, .list ds)) => flats ds = true ∧ lcW wg wt we vs (fun kd acc ρ' => Q (ρ'.set i (some (.un, .list ds))) (finK kd) (.list acc)) (ds.map fun d => (.un, d)) .un [] (wipeR (ρ.set i none) vs)
  | _ => False
theorem rxAll_getF {H : Hp} : ∀ {vs : List V} {ds : List PyData} {F : List Addr} {j : Nat} {v : V}, RxAll K H vs ds F → flats ds = true → vs[j]? = some v → ∃ d, ds[j]? = some d ∧ Rx K H v d [] ∧ flat d = true
  | _, _, _, _, _, .nil, _, e => by simp at e
  | _, _, _, 0, v, .cons r s, f, e => by
    simp at e
    subst e
    have f2 := Bool.and_eq_true_iff.mp (show (flat _ && flats _) = true from f)
    exact ⟨_, rfl, dp_flat r.dp f2.1, f2.1⟩
  | _, _, _, j + 1, v, .cons r s, f, e => by
    have f2 := Bool.and_eq_true_iff.mp (show (flat _ && flats _) = true from f)
    obtain ⟨d, h1, h2, h3⟩ := rxAll_getF (j := j) s f2.2 (by simpa using e)
    exact ⟨d, by simpa using h1, h2, h3⟩
theorem iterOk_own {a : Addr} {ds : List PyData} (f : flats ds = true) : IterOk K (Itl K a) ⟨.ref a, .un, .list ds⟩ (ds.map fun d => (.un, d)) := by
  have get : ∀ {H : Hp} {G : Gh} {M : List Cel}, St0 K H G (⟨.ref a, .un, .list ds⟩ :: M) → ∃ xs F, H a = some (.lst xs) ∧ RxAll K H xs ds F := by
    intro H G M s
    obtain ⟨E, s⟩ := s
    have ex := s.ex
    cases ex with
    | un r _ =>
      cases r with
      | lst h1 h2 => exact ⟨_, _, h1, h2⟩
  refine ⟨fun i H G M hi s => ?_, fun H G M s => ?_, fun i H G M x H' hi s hy => ?_⟩
  · obtain ⟨xs, F, h1, h2⟩ := get s
    rw [List.length_map] at hi
    have hl := rxAll_len h2
    exact ⟨xs, xs[i]'(by omega), SqL.of h1, List.getElem?_eq_getElem (by omega)⟩
  · obtain ⟨xs, F, h1, h2⟩ := get s
    exact ⟨xs, SqL.of h1, by rw [List.length_map, rxAll_len h2]; exact Nat.le_refl _⟩
  · obtain ⟨xs, F, h1, h2⟩ := get s
    obtain ⟨rfl, hx⟩ := hy
    obtain ⟨d, e1, e2, e3⟩ := rxAll_getF h2 f (hx xs (SqL.of h1))
    exact ⟨.un, d, by rw [List.getElem?_map, e1]; rfl, s.scal e2⟩
theorem lift_lcO {i : Nat} {g : TG} {tt : TT} {te : TE} {wg : WG} {wt : WT} {we : WE} {vs : List Nat} (lg : LiftG K g wg) (hg : TgIn g vs) (hm : ∀ v σ H (Q Q' : St → Hp → Prop), (∀ σ H, Q σ H → Q' σ H) → g v σ H Q → g v σ H Q') (lt : LiftT K tt wt) (le : LiftE K te we) :
    LiftE K (tLc (iList K (tVar i)) g tt te vs) (wLcO i wg wt we vs) := by
  intro G H σ ρ L Q Qp ok s h q
  unfold wLcO at h
  split at h
  · rename_i ds e
    obtain ⟨v, e1, p, ok1, _⟩ := ok.slot e
    have s1 : St0 K H G (⟨v, .un, .list ds⟩ :: (lv σ (ρ.set i none) ++ L)) := s.perm (p.append_right L)
    obtain ⟨a, rfl⟩ := dp_ref_l s1.dp
    have hs : ∃ xs, SqL K H a xs := by
      have dv := s1.dp
      cases dv with
      | lst hs _ => exact ⟨_, hs⟩
    refine ⟨_, e1, a, rfl, hs, ?_⟩
    refine lift_lcG lg hg hm lt le ok1 (fun z => by cases z) s1 (iterOk_own h.1) h.2 fun H2 ρ2 kd es D ok2 s2 h2 => ?_
    have eσ : σ.set i (some (.ref a)) = σ := by
      apply List.ext_getElem?
      intro j
      rw [List.getElem?_set]
      split
      · rename_i z
        subst z
        rw [e1]
        have : i < σ.length := (List.getElem?_eq_some_iff.mp e1).1
        simp [this]
      · rfl
    have ok3 := (ok2.put i (.ref a) .un (.list ds) rfl).1
    rw [eσ] at ok3
    have s3 : St0 K H2 G (⟨.ref a, .un, .list ds⟩ :: (lv σ ρ2 ++ (⟨.ref D, finK kd, .list es⟩ :: L))) := s2.perm (List.Perm.cons _ List.perm_middle.symm)
    have s4 := St0.put (i := i) rfl ok2 s3
    rw [eσ] at s4
    exact q _ H2 _ _ _ ok3 (s4.perm List.perm_middle) h2
  · exact h.elim
end
end PL
namespace PL
open PySem PySem.Spec PyProof.Rows L2 PySem.W
/-! ### min(.., default = ..), max(.., default = ..) -/
theorem mnd_fold : ∀ (ms : List Int) (n : Int), (ms.foldl min n) ∈ n :: ms ∧ ∀ y ∈ n :: ms, ms.foldl min n ≤ y
  | [], n => ⟨List.mem_cons_self, fun y h => by rw [List.mem_singleton.mp h]; exact Int.le_refl _⟩
  | m :: ms, n => by
    obtain ⟨a, b⟩ := mnd_fold ms (min n m)
    rw [List.foldl_cons]
    refine ⟨?_, fun y h => ?_⟩
    · rcases List.mem_cons.mp a with e | e
      · rw [e]
        rcases (by omega : min n m = n ∨ min n m = m) with q | q
        · rw [q]; exact List.mem_cons_self
        · rw [q]; exact List.mem_cons_of_mem _ List.mem_cons_self
      · exact List.mem_cons_of_mem _ (List.mem_cons_of_mem _ e)
    · have b0 := b _ List.mem_cons_self
      rcases List.mem_cons.mp h with e | e
      · rw [e]; omega
      · rcases List.mem_cons.mp e with e | e
        · rw [e]; omega
        · exact b y (List.mem_cons_of_mem _ e)
theorem mxd_fold : ∀ (ms : List Int) (n : Int), (ms.foldl max n) ∈ n :: ms ∧ ∀ y ∈ n :: ms, y ≤ ms.foldl max n
  | [], n => ⟨List.mem_cons_self, fun y h => by rw [List.mem_singleton.mp h]; exact Int.le_refl _⟩
  | m :: ms, n => by
    obtain ⟨a, b⟩ := mxd_fold ms (max n m)
    rw [List.foldl_cons]
    refine ⟨?_, fun y h => ?_⟩
    · rcases List.mem_cons.mp a with e | e
      · rw [e]
        rcases (by omega : max n m = n ∨ max n m = m) with q | q
        · rw [q]; exact List.mem_cons_self
        · rw [q]; exact List.mem_cons_of_mem _ List.mem_cons_self
      · exact List.mem_cons_of_mem _ (List.mem_cons_of_mem _ e)
    · have b0 := b _ List.mem_cons_self
      rcases List.mem_cons.mp h with e | e
      · rw [e]; omega
      · rcases List.mem_cons.mp e with e | e
        · rw [e]; omega
        · exact b y (List.mem_cons_of_mem _ e)
def rMnd (K : PySem.W.Frag) : List V → Hp → VK → Prop := fun xs H Q => ∃ a ns d, xs = [V.ref a, d] ∧ SqL K H a (ns.map V.int) ∧ (ns = [] → Q d H) ∧ ∀ m, m ∈ ns → (∀ y, y ∈ ns → m ≤ y) → Q (.int m) H
def rMxd (K : PySem.W.Frag) : List V → Hp → VK → Prop := fun xs H Q => ∃ a ns d, xs = [V.ref a, d] ∧ SqL K H a (ns.map V.int) ∧ (ns = [] → Q d H) ∧ ∀ m, m ∈ ns → (∀ y, y ∈ ns → y ≤ m) → Q (.int m) H
/-- one value and one keyword's value -/
def r1K (r : List V → Hp → VK → Prop) : List V → List V → Hp → VK → Prop := fun xs zs H Q => match xs, zs with
  | [x], [z] => r [x, z] H Q
  | _, _ => False
theorem mnd_alike (ns : List Int) : AlikeAll (ns.map .int) := by
  refine ⟨fun x hx y hy => ?_, fun x hx e => ?_⟩
  · obtain ⟨i, _, rfl⟩ := List.mem_map.mp hx
    obtain ⟨j, _, rfl⟩ := List.mem_map.mp hy
    rfl
  · obtain ⟨i, _, rfl⟩ := List.mem_map.mp hx
    cases e
theorem mnd_depth : ∀ ns : List Int, PyData.depthAll (ns.map .int) ≤ 1
  | [] => by simp [PyData.depthAll]
  | n :: ns => by
    have h := mnd_depth ns
    rw [List.map_cons, PyData.depthAll]
    generalize PyData.depthAll (List.map PyData.int ns) = z at *
    simp only [PyData.depth]
    omega
theorem call_mnd {X : Cx} (hc : X.calm = true) (hu : X.A.units + 65 < cLine) : CallRK X (.builtin "min") [Str.ofString "default"] (r1K (rMnd X.K)) := by
  intro pins s σ H xs zs us ws Q I r rz h
  unfold r1K at h
  split at h
  · rename_i x z
    obtain ⟨a, ns, d, e, hs, h0, h1⟩ := h
    injection e with e1 e2
    injection e2 with e2 e3
    subst e1 e2
    obtain ⟨its, rv, hl, _⟩ := I.list hs
    rw [Vals.ref1 r]
    cases rz with
    | cons r1 rn =>
      cases rn
      rename_i w
      have hi := rv.ints
      have hd := mnd_depth ns
      refine min_list_default (I.ok.hd hc) hl.isList (hi.reads s.heap) (mnd_alike ns) (by omega) (fun en h' tk k => ⟨_, H, I.kept k, r1, h0 (List.map_eq_nil_iff.mp en)⟩) (fun y ys i v h' tk bs ey _ hr k => ?_)
      cases ns with
      | nil => cases ey
      | cons n ns =>
        injection ey with ey1 ey2
        subst ey1 ey2
        rw [minD_ints] at hr
        obtain ⟨m1, m2⟩ := mnd_fold ns n
        cases hr
        exact ⟨.int _, H, I.kept k, ⟨_, rfl⟩, h1 _ m1 m2⟩
  · exact h.elim
theorem call_mxd {X : Cx} (hc : X.calm = true) (hu : X.A.units + 65 < cLine) : CallRK X (.builtin "max") [Str.ofString "default"] (r1K (rMxd X.K)) := by
  intro pins s σ H xs zs us ws Q I r rz h
  unfold r1K at h
  split at h
  · rename_i x z
    obtain ⟨a, ns, d, e, hs, h0, h1⟩ := h
    injection e with e1 e2
    injection e2 with e2 e3
    subst e1 e2
    obtain ⟨its, rv, hl, _⟩ := I.list hs
    rw [Vals.ref1 r]
    cases rz with
    | cons r1 rn =>
      cases rn
      rename_i w
      have hi := rv.ints
      have hd := mnd_depth ns
      refine max_list_default (I.ok.hd hc) hl.isList (hi.reads s.heap) (mnd_alike ns) (by omega) (fun en h' tk k => ⟨_, H, I.kept k, r1, h0 (List.map_eq_nil_iff.mp en)⟩) (fun y ys i v h' tk bs ey _ hr k => ?_)
      cases ns with
      | nil => cases ey
      | cons n ns =>
        injection ey with ey1 ey2
        subst ey1 ey2
        rw [maxD_ints] at hr
        obtain ⟨m1, m2⟩ := mxd_fold ns n
        cases hr
        exact ⟨.int _, H, I.kept k, ⟨_, rfl⟩, h1 _ m1 m2⟩
  · exact h.elim
def cMnd : WC := fun ds Q => match ds with
  | [(_, .list ds), (_, .int i)] => ∃ ns, ints? ds = some ns ∧ (ns = [] → Q .un (.int i)) ∧ ∀ m, m ∈ ns → (∀ y, y ∈ ns → m ≤ y) → Q .un (.int m)
  | [(_, .list ds), (_, .none)] => ∃ ns, ints? ds = some ns ∧ (ns = [] → Q .un .none) ∧ ∀ m, m ∈ ns → (∀ y, y ∈ ns → m ≤ y) → Q .un (.int m)
  | _ => False
def cMxd : WC := fun ds Q => match ds with
  | [(_, .list ds), (_, .int i)] => ∃ ns, ints? ds = some ns ∧ (ns = [] → Q .un (.int i)) ∧ ∀ m, m ∈ ns → (∀ y, y ∈ ns → y ≤ m) → Q .un (.int m)
  | [(_, .list ds), (_, .none)] => ∃ ns, ints? ds = some ns ∧ (ns = [] → Q .un .none) ∧ ∀ m, m ∈ ns → (∀ y, y ∈ ns → y ≤ m) → Q .un (.int m)
  | _ => False
theorem lift_mnd {K : PySem.W.Frag} : LiftC K (rMnd K) cMnd := by
  intro G H L vs ds cs Q Qp hc s hw q
  unfold cMnd at hw
  split at hw
  · cases hc with
    | cons hc =>
      cases hc with
      | cons hc =>
        cases hc
        have h1 := s.dp
        have h2 := s.drop.dp
        obtain ⟨ns, e, h0, hw⟩ := hw
        cases h2
        cases h1 with
        | lst hs ha =>
          rw [dpAll_ints ha e] at hs
          exact ⟨_, ns, _, rfl, hs, fun en => q _ H .un _ (s.drop.drop.scal (.int _)) (h0 en), fun m h1 h2 => q _ H .un _ (s.drop.drop.scal (.int _)) (hw m h1 h2)⟩
  · cases hc with
    | cons hc =>
      cases hc with
      | cons hc =>
        cases hc
        have h1 := s.dp
        have h2 := s.drop.dp
        obtain ⟨ns, e, h0, hw⟩ := hw
        cases h2
        cases h1 with
        | lst hs ha =>
          rw [dpAll_ints ha e] at hs
          exact ⟨_, ns, _, rfl, hs, fun en => q _ H .un _ (s.drop.drop.scal .non) (h0 en), fun m h1 h2 => q _ H .un _ (s.drop.drop.scal (.int _)) (hw m h1 h2)⟩
  · exact hw.elim
theorem lift_mxd {K : PySem.W.Frag} : LiftC K (rMxd K) cMxd := by
  intro G H L vs ds cs Q Qp hc s hw q
  unfold cMxd at hw
  split at hw
  · cases hc with
    | cons hc =>
      cases hc with
      | cons hc =>
        cases hc
        have h1 := s.dp
        have h2 := s.drop.dp
        obtain ⟨ns, e, h0, hw⟩ := hw
        cases h2
        cases h1 with
        | lst hs ha =>
          rw [dpAll_ints ha e] at hs
          exact ⟨_, ns, _, rfl, hs, fun en => q _ H .un _ (s.drop.drop.scal (.int _)) (h0 en), fun m h1 h2 => q _ H .un _ (s.drop.drop.scal (.int _)) (hw m h1 h2)⟩
  · cases hc with
    | cons hc =>
      cases hc with
      | cons hc =>
        cases hc
        have h1 := s.dp
        have h2 := s.drop.dp
        obtain ⟨ns, e, h0, hw⟩ := hw
        cases h2
        cases h1 with
        | lst hs ha =>
          rw [dpAll_ints ha e] at hs
          exact ⟨_, ns, _, rfl, hs, fun en => q _ H .un _ (s.drop.drop.scal .non) (h0 en), fun m h1 h2 => q _ H .un _ (s.drop.drop.scal (.int _)) (hw m h1 h2)⟩
  · exact hw.elim
end PL
namespace PL
open PySem PySem.Spec L2
/-! ### statements that change nothing that stood -/
def LiftQ (K : PySem.W.Frag) (t : TS) (w : WS) : Prop := ∀ (G : Gh) (H : Hp) (σ : St) (ρ : Rho) (L : List Cel) (D : Ends) (κ : KS), EnvOk σ ρ → St0 K H G (lv σ ρ ++ L) → w κ ρ → EndsOk K G L D κ → t D σ H
def LiftI0 (K : PySem.W.Frag) (t : TI) (w : WI) : Prop := ∀ (G : Gh) (H : Hp) (σ : St) (ρ : Rho) (L : List Cel) (R : It → Hp → Prop) (Qp : Rho → List Sl → Prop), EnvOk σ ρ → St0 K H G (lv σ ρ ++ L) → w ρ Qp →
  (∀ J H1 ρ1 ds c, EnvOk σ ρ1 → St0 K H1 G (c :: (lv σ ρ1 ++ L)) → IterOk K J c ds → Qp ρ1 ds → R J H1) → t σ H R
section
variable {K : PySem.W.Frag} {wa : WE} {wt : WT} {ta : TE} {tt : TT} {ts us : TS} {w u : WS}
theorem LiftI.i0 {t : TI} {wi : WI} (h : LiftI K t wi) : LiftI0 K t wi := fun G H σ ρ L R Qp ok s q r => h G H σ ρ L R Qp ok s q fun J H1 ρ1 ds c ok1 _ s1 it hq => r J H1 ρ1 ds c ok1 s1 it hq
theorem LiftQ.s {t : TS} {w : WS} (h : LiftQ K t w) : LiftS K t w := fun G H σ ρ L D κ _ _ ok s hw q => h G H σ ρ L D κ ok s hw q
theorem lq_skip : LiftQ K tNext wSkip := fun G H σ ρ L D κ ok s h q => q.nx σ H ρ ok s h
theorem lq_seq (l1 : LiftQ K ts w) (l2 : LiftQ K us u) : LiftQ K (tSeq ts us) (wSeq w u) := fun G H σ ρ L D κ ok s h q =>
  l1 G H σ ρ L _ _ ok s h ⟨fun σ H ρ ok s h => l2 G H σ ρ L D κ ok s h q, q.bk, q.ct, q.rt, q.rm⟩
theorem lq_never : LiftQ K tNever wNever := fun _ _ _ _ _ _ _ _ _ h _ => h.elim
theorem lq_drop (l : LiftE K ta wa) : LiftQ K (tDrop ta) (wDrop wa) := fun G H σ ρ L D κ ok s h q => l G H σ ρ L _ _ ok s h fun v H1 ρ1 k d ok1 s1 h1 => q.nx σ H1 ρ1 ok1 s1.drop h1
theorem lq_ret (l : LiftE K ta wa) : LiftQ K (tRet ta) (wRet wa) := fun G H σ ρ L D κ ok s h q => l G H σ ρ L _ _ ok s h fun v H1 ρ1 k d ok1 s1 h1 => q.rt v H1 k d s1.noenv h1
theorem lq_retN : LiftQ K tRetN wRetN := fun G H σ ρ L D κ ok s h q => q.rt .non H .un .none ((s.sub (M := lv σ ρ) (.refl _)).scal .non) h
theorem lq_ifS (lc : LiftT K tt wt) (la : LiftQ K ts w) (lb : LiftQ K us u) : LiftQ K (tIfS tt ts us) (wIfS wt w u) := by
  intro G H σ ρ L D κ ok s h q
  refine lc G H σ ρ L _ _ ok s h fun b H1 ρ1 ok1 s1 h1 => ?_
  cases b with
  | true => rw [if_pos rfl] at h1 ⊢; exact la G H1 σ ρ1 L D κ ok1 s1 h1 q
  | false => rw [if_neg Bool.false_ne_true] at h1 ⊢; exact lb G H1 σ ρ1 L D κ ok1 s1 h1 q
theorem lq_asg {tg : TG} {wg : WG} (la : LiftE K ta wa) (lg : LiftG K tg wg) : LiftQ K (tAsg ta tg) (wAsg wa wg) := fun G H σ ρ L D κ ok s h q =>
  la G H σ ρ L _ _ ok s h fun v H1 ρ1 k d ok1 s1 h1 => lg G H1 σ ρ1 L v k d _ _ ok1 s1 h1 fun σ2 H2 ρ2 ok2 s2 h2 => q.nx σ2 H2 ρ2 ok2 s2 h2
theorem lq_for {ti : TI} {g : TG} {tb : TS} {wi : WI} {wg : WG} {wb : WS} (li : LiftI0 K ti wi) (lg : LiftG K g wg) (lb : LiftQ K tb wb) : LiftQ K (tFor ti g tb) (wFor wi wg wb) := by
  intro G H σ ρ L D κ ok s h q
  refine li G H σ ρ L _ _ ok s h fun J H1 ρ1 ds c ok1 s1 it h1 => ?_
  refine ⟨fun i m σ H => m = ds.length - i ∧ i ≤ ds.length ∧ ∃ ρ, EnvOk σ ρ ∧ St0 K H G (c :: (lv σ ρ ++ L)) ∧ forW wg wb κ (ds.drop i) ρ, ⟨ds.length, by simp, Nat.zero_le _, ρ1, ok1, s1, h1⟩, ?_⟩
  rintro i m σ2 H2 ⟨rfl, hi, ρ2, ok2, s2, h2⟩
  by_cases hlt : i < ds.length
  · obtain ⟨⟨k, d⟩, hd⟩ : ∃ x, ds[i]? = some x := ⟨_, List.getElem?_eq_getElem hlt⟩
    refine .inr ⟨it.go i H2 G _ hlt s2, fun σ' H' => ∃ ρ', EnvOk σ' ρ' ∧ St0 K H' G (c :: (lv σ' ρ' ++ L)) ∧ forW wg wb κ (ds.drop (i + 1)) ρ', ?_, ?_⟩
    · rintro σ' H' ⟨ρ', ok', s', h'⟩
      exact ⟨ds.length - (i + 1), by omega, rfl, hlt, ρ', ok', s', h'⟩
    · intro x H3 hy
      obtain ⟨k', d', hd', s3⟩ := it.yld i H2 G _ x H3 hlt s2 hy
      rw [hd] at hd'
      cases hd'
      rw [drop_get hd] at h2
      refine lg G H3 σ2 ρ2 (c :: L) x k d _ _ ok2 ?_ h2 fun σ4 H4 ρ4 ok4 s4 h4 => ?_
      · exact s3.perm (List.Perm.cons _ List.perm_middle.symm)
      · refine lb G H4 σ4 ρ4 (c :: L) _ _ ok4 s4 h4 ⟨fun σ H ρ ok s q' => ⟨ρ, ok, s.perm List.perm_middle, q'⟩, fun σ H ρ ok s q' => q.nx σ H ρ ok (s.perm List.perm_middle).drop q', fun σ H ρ ok s q' => ⟨ρ, ok, s.perm List.perm_middle, q'⟩, fun v H k d s q' => q.rt v H k d (s.perm (.swap _ _ _)).drop q', fun v H k d d0 s q' => q.rm v H k d d0 (s.perm (((List.Perm.swap _ _ _).cons _).trans (.swap _ _ _))).drop q'⟩
  · have e : i = ds.length := by omega
    subst e
    rw [List.drop_length] at h2
    exact .inl ⟨it.stop H2 G _ s2, q.nx σ2 H2 ρ2 ok2 s2.drop h2⟩
/-- a list is walked that stays one's own: nothing is changed in the loop -/
def wWalkB (w : WE) : WI := fun ρ Q => w ρ fun ρ1 k d => match k, d with
  | .br, .list ds => Q ρ1 (ds.map fun d => (kp .br d, d))
  | _, _ => False
theorem iterOk_listB {a : Addr} {ds : List PyData} : IterOk K (Itl K a) ⟨.ref a, .br, .list ds⟩ (ds.map fun d => (kp .br d, d)) := by
  refine ⟨fun i H G M hi s => ?_, fun H G M s => ?_, fun i H G M x H' hi s hy => ?_⟩
  · have dp := s.dp
    have hi : i < ds.length := by simpa using hi
    cases dp with
    | lst hs ha =>
      obtain ⟨v, hv, _⟩ := dpAll_get ha (j := i) (List.getElem?_eq_getElem hi)
      exact ⟨_, v, hs, hv⟩
  · have dp := s.dp
    cases dp with
    | lst hs ha => exact ⟨_, hs, by rw [dpAll_len ha]; simp⟩
  · have hi : i < ds.length := by simpa using hi
    obtain ⟨rfl, hy⟩ := hy
    have s2 := s.look
    obtain ⟨xs, u, h1, h2, h3⟩ := St0.item false s2 (atI_nat (List.getElem?_eq_getElem hi))
    have e := hy xs h1
    have e2 := atI_nat' h2
    rw [e] at e2
    have : x = u := Option.some.inj e2
    subst this
    exact ⟨kp .br ds[i], ds[i], by simp [hi], h3⟩
theorem lift_iLB (l : LiftE K ta wa) : LiftI0 K (iList K ta) (wWalkB wa) := by
  intro G H σ ρ L R Qp ok s h q
  refine l G H σ ρ L _ _ ok s h fun v H1 ρ1 k d ok1 s1 h1 => ?_
  have dv := s1.dp
  split at h1
  · obtain ⟨a, rfl⟩ := dp_ref_l dv
    refine ⟨a, rfl, ?_, q _ H1 ρ1 _ _ ok1 s1 iterOk_listB h1⟩
    cases dv with
    | lst hs _ => exact ⟨_, hs⟩
  · exact h1.elim
end
/-! ### a part of a list of one's own: from now on nobody changes its parts -/
section
variable {K : PySem.W.Frag}
theorem St0.rtz {H : Hp} {G : Gh} {L : List Cel} {v : V} {ds : List PyData} (s : St0 K H G (⟨v, .un, .list ds⟩ :: L)) : St0 K H G (⟨v, .rt, .list ds⟩ :: L) := by
  obtain ⟨E, s⟩ := s
  have nd := s.nd
  cases id s.ex with
  | @un _ _ F _ E' r e =>
    cases r with
    | @lst a vs _ F0 ha ra =>
      have hsub : ∀ b, b ∈ a :: E' → b ∈ a :: F0 ++ E' := fun b hb => by
        rcases List.mem_cons.mp hb with z | z
        · rw [z]; exact List.mem_append_left _ List.mem_cons_self
        · exact List.mem_append_right _ z
      have nd1 := (List.nodup_cons.mp (show (a :: (F0 ++ E')).Nodup from nd))
      have nd2 := List.nodup_append.mp nd1.2
      have na : a ∉ E' := fun z => nd1.1 (List.mem_append_right _ z)
      have me : ∀ p ∈ a :: E', ∃ o, H p = some o ∧ ownO o = true := fun p hp => by
        rcases List.mem_cons.mp hp with z | z
        · rw [z]; exact ⟨_, ha, rfl⟩
        · exact e.mem p z
      refine ⟨a :: E', .rt ha e, List.nodup_cons.mpr ⟨na, nd2.2.1⟩, fun p hp => s.nw p (hsub p hp), s.sm.trans (hide_mono hsub), s.gr, fun c hc => ?_⟩
      rcases List.mem_cons.mp hc with rfl | hc
      · refine ⟨a, vs, ds, F0, rfl, rfl, ha, rxAll_hide me (fun p hp hq => ?_) ra⟩
        rcases List.mem_cons.mp hq with z | z
        · rw [z] at hp; exact nd1.1 (List.mem_append_left _ hp)
        · exact nd2.2.2 p hp p z rfl
      · exact (s.sn c (List.mem_cons_of_mem _ hc)).mono hsub
theorem St0.partRt {H : Hp} {G : Gh} {L : List Cel} {v : V} {ds : List PyData} {i : Int} {d : PyData} (s : St0 K H G (⟨v, .rt, .list ds⟩ :: L)) (e : atI ds i = some d) :
    ∃ p xs u, v = .ref p ∧ SqL K H p xs ∧ atI xs i = some u ∧ St0 K H G (⟨u, .fr, d⟩ :: ⟨v, .rt, .list ds⟩ :: L) := by
  obtain ⟨E, s⟩ := s
  have z := s.sn _ List.mem_cons_self
  obtain ⟨a, vs, ds', F, h1, h2, h3, h4⟩ := z
  cases h2
  have h1 : v = .ref a := h1
  have hl := rxAll_len h4
  obtain ⟨j, hj, e2⟩ : ∃ j : Nat, ds[j]? = some d ∧ ∀ u, vs[j]? = some u → atI vs i = some u := by
    unfold atI at e ⊢
    rw [hl]
    cases q : ixN ds.length i with
    | none => rw [q] at e; cases e
    | some j =>
      rw [q] at e
      exact ⟨j, e, fun u hu => hu⟩
  obtain ⟨u, F', hu, r, _⟩ := rxAll_get h4 hj
  refine ⟨a, vs, u, h1, SqL.of h3, e2 u hu, E, .fr s.ex, s.nd, s.nw, s.sm, s.gr, fun c hc => ?_⟩
  rcases List.mem_cons.mp hc with rfl | hc
  · exact ⟨F', r⟩
  · exact s.sn c hc
def wIxr2 (i : Nat) (ρ1 : Rho) (j : PyData) (Q : Rho → Kd → PyData → Prop) : Prop := match ρ1[i]?, j with
  | some (some (.rt, .list ds)), .int n => wAt ds n (fun d => Q ρ1 .fr d) .mk
  | _, _ => False
def wIxr (i : Nat) (wb : WE) : WE := fun ρ Q => match ρ[i]? with
  | some (some (.un, .list ds)) => wb (ρ.set i (some (.rt, .list ds))) fun ρ1 _ j => wIxr2 i ρ1 j Q
  | some (some (.rt, .list _)) => wb ρ fun ρ1 _ j => wIxr2 i ρ1 j Q
  | _ => False
theorem lift_ixr {i : Nat} {tb : TE} {wb : WE} (lb : LiftE K tb wb) : LiftE K (tOp (rIx K) (tVar i) tb) (wIxr i wb) := by
  intro G H σ ρ L Q Qp ok s h q
  have fin : ∀ (v : V) (ρ0 : Rho), σ[i]? = some (some v) → EnvOk σ ρ0 → St0 K H G (lv σ ρ0 ++ L) → (wb ρ0 fun ρ1 _ j => wIxr2 i ρ1 j Qp) → tb σ H fun y H2 => rIx K v y H2 Q := fun v ρ0 e1 ok0 s0 h0 => by
    refine lb G H σ ρ0 L _ _ ok0 s0 h0 fun y H2 ρ1 k2 j ok2 s2 h2 => ?_
    have dj := s2.dp
    unfold wIxr2 at h2
    split at h2
    · rename_i ds n e
      cases dj
      obtain ⟨v', e1', p, _, _⟩ := ok2.slot e
      rw [e1] at e1'
      cases e1'
      have s3 := s2.drop.perm (p.append_right L)
      unfold wAt at h2
      split at h2
      · rename_i d ed
        obtain ⟨a, xs, u, rfl, h3, h4, s4⟩ := St0.partRt s3 ed
        exact .inl ⟨a, xs, n, u, rfl, rfl, h3, h4, q u H2 ρ1 .fr d ok2 (s4.perm ((p.symm.append_right L).cons _)) h2⟩
      · exact h2.elim
    · exact h2.elim
  unfold wIxr at h
  split at h
  · rename_i ds e
    obtain ⟨v, e1, p, ok2, f⟩ := ok.slot e
    obtain ⟨ok3, p3⟩ := f .rt (.list ds) rfl
    have s2 := ((s.perm (p.append_right L)).rtz).perm (p3.append_right L)
    exact ⟨v, e1, fin v _ e1 ok3 s2 h⟩
  · rename_i ds e
    obtain ⟨v, e1, p, ok2, f⟩ := ok.slot e
    exact ⟨v, e1, fin v ρ e1 ok s h⟩
  · exact h.elim
end
end PL
namespace PL
open PySem PySem.Spec L2
/-! ### a list of one's own behind a path, changed by a statement -/
def getP : PyData → List Nat → Option PyData
  | d, [] => some d
  | .list ds, j :: js => match ds[j]? with | some d => getP d js | none => none
  | .tuple ds, j :: js => match ds[j]? with | some d => getP d js | none => none
  | .dict [(_, .tuple ds), _], j :: js => match ds[j]? with | some d => getP d js | none => none
  | _, _ :: _ => none
def setP : PyData → List Nat → PyData → PyData
  | _, [], x => x
  | .list ds, j :: js, x => match ds[j]? with | some d => .list (ds.set j (setP d js x)) | none => .list ds
  | .tuple ds, j :: js, x => match ds[j]? with | some d => .tuple (ds.set j (setP d js x)) | none => .tuple ds
  | .dict [(a, .tuple ds), b], j :: js, x => match ds[j]? with | some d => .dict [(a, .tuple (ds.set j (setP d js x))), b] | none => .dict [(a, .tuple ds), b]
  | d, _ :: _, _ => d
/-- addresses tell what they hold -/
def Det (K : PySem.W.Frag) (H : Hp) : Prop := (∀ a xs ys, SqT K H a xs → SqT K H a ys → xs = ys) ∧ (∀ a xs ys, SqL K H a xs → SqL K H a ys → xs = ys) ∧ (∀ a xs ys, SqL K H a xs → SqT K H a ys → False) ∧ ∀ a xs C dx fs, H a = some (.ins C dx fs) → (SqL K H a xs ∨ SqT K H a xs) → False
theorem inv_det {X : Cx} {pins : List (Addr × Obj)} {σ : St} {H : Hp} {s : Shared} (I : Inv X pins σ H s) : Det X.K H := by
  refine ⟨fun a xs ys h h' => I.tuple_inj h h', fun a xs ys h h' => I.list_inj h h', fun a xs ys h h' => ?_, fun a xs C dx fs e0 h => ?_⟩
  · obtain ⟨its, _, ⟨o, n, e, c, _⟩, _⟩ := I.list h
    obtain ⟨its', _, ⟨o', e', c', _⟩, _⟩ := I.tuple h'
    rw [e] at e'
    cases e'
    rw [c] at c'
    exact absurd c' (by decide)
  · obtain ⟨_, _, _, e1, _⟩ := (show ObjOk X.prog X.w H s.heap a (.ins C dx fs) from I.hok a _ e0)
    rcases h with h | h
    · obtain ⟨its, _, ⟨o, n, e, c, _⟩, _⟩ := I.list h
      rw [e1] at e
      cases e
      cases c
    · obtain ⟨its', _, ⟨o', e', c', _⟩, _⟩ := I.tuple h
      rw [e1] at e'
      cases e'
      cases c'
def tDet (K : PySem.W.Frag) (t : TA) : TA := fun σ H Q => t σ H fun us H1 => Det K H1 → Q us H1
theorem pa_det {X : Cx} {es : List Expr} {t : TA} (h : PA X es t) : PA X es (tDet X.K t) := by
  refine ⟨fun pos pins s σ H Q I ht => ?_⟩
  refine thn (h.run pos pins s σ H _ I ht) fun us s1 ⟨vs, H1, I1, r, q⟩ => ⟨vs, H1, I1, r, q (inv_det I1)⟩
section
variable {K : PySem.W.Frag} {H H' : Hp}
inductive Reach (K : PySem.W.Frag) (H : Hp) : V → List Nat → V → Prop
  | nil {v} : Reach K H v [] v
  | cons {a xs j js x u} : (SqL K H a xs ∨ SqT K H a xs) → xs[j]? = some x → Reach K H x js u → Reach K H (.ref a) (j :: js) u
  | ob {a C dx fs j js x u} : H a = some (.ins C dx fs) → (fs.map (·.2))[j]? = some x → Reach K H x js u → Reach K H (.ref a) (j :: js) u
theorem Reach.same (e : Same H H') : ∀ {v : V} {js : List Nat} {u : V}, Reach K H v js u → Reach K H' v js u
  | _, _, _, .nil => .nil
  | _, _, _, .cons h g r => .cons (h.imp (Same.seq e) (sqT_same e)) g (r.same e)
  | _, _, _, .ob h g r => .ob (e _ _ h) g (r.same e)
theorem Reach.snoc {a : Addr} {xs : List V} {j : Nat} {x : V} (h : SqL K H a xs ∨ SqT K H a xs) (g : xs[j]? = some x) : ∀ {v : V} {js : List Nat}, Reach K H v js (.ref a) → Reach K H v (js ++ [j]) x
  | _, _, .nil => .cons h g .nil
  | _, _, .cons h' g' r => .cons h' g' (r.snoc h g)
  | _, _, .ob h' g' r => .ob h' g' (r.snoc h g)
theorem Reach.snocO {a C dx : Addr} {fs : List (Str × V)} {j : Nat} {x : V} (h : H a = some (.ins C dx fs)) (g : (fs.map (·.2))[j]? = some x) : ∀ {v : V} {js : List Nat}, Reach K H v js (.ref a) → Reach K H v (js ++ [j]) x
  | _, _, .nil => .ob h g .nil
  | _, _, .cons h' g' r => .cons h' g' (r.snocO h g)
  | _, _, .ob h' g' r => .ob h' g' (r.snocO h g)
theorem rxAll_split : ∀ {vs : List V} {ds : List PyData} {F : List Addr} {j : Nat} {d : PyData}, RxAll K H vs ds F → ds[j]? = some d →
    ∃ v F1 F2 F3, vs[j]? = some v ∧ Rx K H v d F2 ∧ F = F1 ++ (F2 ++ F3) ∧ ∀ (H' : Hp) (d' : PyData) (F2' : List Addr), (∀ u e G, Rx K H u e G → (∀ p ∈ G, p ∈ F1 ++ F3) → Rx K H' u e G) → Rx K H' v d' F2' → RxAll K H' vs (ds.set j d') (F1 ++ (F2' ++ F3))
  | _, _, _, _, _, .nil, e => by simp at e
  | _, _, _, 0, d, .cons (F := F) (F' := F') r s, e => by
    cases e
    refine ⟨_, [], F, F', rfl, r, by simp, fun H' d' F2' k r' => ?_⟩
    have go : ∀ {vs : List V} {ds : List PyData} {G : List Addr}, RxAll K H vs ds G → (∀ p ∈ G, p ∈ [] ++ F') → RxAll K H' vs ds G := by
      intro vs
      induction vs with
      | nil => intro ds G h _; cases h; exact .nil
      | cons v vs ih =>
        intro ds G h n
        cases h with
        | cons r s => exact .cons (k _ _ _ r fun p hp => n p (List.mem_append_left _ hp)) (ih s fun p hp => n p (List.mem_append_right _ hp))
    rw [List.nil_append]
    exact .cons r' (go s fun p hp => by simpa using hp)
  | _, _, _, j + 1, d, .cons (F := F) (F' := F') r s, e => by
    obtain ⟨v, F1, F2, F3, h1, h2, h3, h4⟩ := rxAll_split (j := j) s (by simpa using e)
    refine ⟨v, F ++ F1, F2, F3, by simpa using h1, h2, by rw [h3, List.append_assoc], fun H' d' F2' k r' => ?_⟩
    rw [List.set_cons_succ, List.append_assoc]
    refine .cons (k _ _ _ r fun p hp => by simp [hp]) (h4 H' d' F2' (fun u e G ru n => k u e G ru fun p hp => ?_) r')
    have := n p hp
    simp only [List.mem_append] at this ⊢
    rcases this with h | h
    · exact .inl (.inr h)
    · exact .inr h
theorem nodup_mid {A B B' C X : List Addr} (nd : (A ++ (B ++ C)).Nodup) (n' : B'.Nodup) (h : ∀ b ∈ B', b ∈ B ∨ b ∈ X) (hX : ∀ b ∈ X, b ∉ A ++ (B ++ C)) : (A ++ (B' ++ C)).Nodup := by
  obtain ⟨h1, h2, h3⟩ := List.nodup_append.mp nd
  obtain ⟨h4, h5, h6⟩ := List.nodup_append.mp h2
  refine List.nodup_append.mpr ⟨h1, List.nodup_append.mpr ⟨n', h5, fun a ha b hb e => ?_⟩, fun a ha b hb e => ?_⟩
  · subst e
    rcases h a ha with z | z
    · exact h6 a z a hb rfl
    · exact hX a z (by simp [hb])
  · subst e
    rcases List.mem_append.mp hb with z | z
    · rcases h a z with z | z
      · exact h3 a ha a (List.mem_append_left _ z) rfl
      · exact hX a z (by simp [ha])
    · exact h3 a ha a (List.mem_append_right _ z) rfl
theorem rx_putP (dt : Det K H) {q : Addr} {ds0 : List PyData} (Fx : List Addr) : ∀ {js : List Nat} {v : V} {d : PyData} {F : List Addr}, Rx K H v d F → F.Nodup → (∀ b ∈ Fx, b ∉ F) → Reach K H v js (.ref q) → getP d js = some (.list ds0) →
    ∃ ws F0, H q = some (.lst ws) ∧ q ∈ F ∧ F0.Nodup ∧ q ∉ F0 ∧ (∀ b ∈ F0, b ∈ F) ∧ RxAll K H ws ds0 F0 ∧ ∀ ws' ds' F0', RxAll K H ws' ds' F0' → F0'.Nodup → (∀ b ∈ F0', b ∈ F0 ∨ b ∈ Fx) → ∃ F', Rx K (upd H q (.lst ws')) v (setP d js (.list ds')) F' ∧ F'.Nodup ∧ (∀ b ∈ F', b ∈ F ∨ b ∈ Fx) ∧ q ∈ F' := by
  intro js
  induction js with
  | nil =>
    intro v d F r nd hX re e
    cases re
    cases d with
    | list ds =>
      cases e
      cases r with
      | @lst _ ws _ F0 h ra =>
        have nd' := List.nodup_cons.mp nd
        refine ⟨ws, F0, h, List.mem_cons_self, nd'.2, nd'.1, fun b hb => List.mem_cons_of_mem _ hb, ra, fun ws' ds' F0' ra' n0 sub => ?_⟩
        have n : q ∉ F0' := fun z => (sub _ z).elim nd'.1 fun z => hX q z List.mem_cons_self
        refine ⟨q :: F0', .lst upd_same (ra'.upd h n), List.nodup_cons.mpr ⟨n, n0⟩, fun b hb => ?_, List.mem_cons_self⟩
        rcases List.mem_cons.mp hb with rfl | hb
        · exact .inl List.mem_cons_self
        · exact (sub b hb).imp (List.mem_cons_of_mem _) id
    | _ => cases e
  | cons j js ih =>
    intro v d F r nd hX re e
    have stepG : ∀ {xs : List V} {x : V}, xs[j]? = some x → Reach K H x js (.ref q) → ∀ {xs' : List V} {ds : List PyData} {F1 : List Addr} {d1 : PyData}, RxAll K H xs' ds F1 → xs' = xs → F1.Nodup → (∀ b ∈ Fx, b ∉ F1) → ds[j]? = some d1 → getP d1 js = some (.list ds0) →
          ∃ ws F0, H q = some (.lst ws) ∧ q ∈ F1 ∧ F0.Nodup ∧ q ∉ F0 ∧ (∀ b ∈ F0, b ∈ F1) ∧ RxAll K H ws ds0 F0 ∧ ∀ ws' ds' F0', RxAll K H ws' ds' F0' → F0'.Nodup → (∀ b ∈ F0', b ∈ F0 ∨ b ∈ Fx) → ∃ F', RxAll K (upd H q (.lst ws')) xs' (ds.set j (setP d1 js (.list ds'))) F' ∧ F'.Nodup ∧ (∀ b ∈ F', b ∈ F1 ∨ b ∈ Fx) ∧ q ∈ F' := by
        intro xs x hx re xs' ds F1 d1 ra hxs nd hX hd hg
        subst hxs
        obtain ⟨v1, A, B, C, h1, h2, h3, h4⟩ := rxAll_split ra hd
        rw [hx] at h1
        cases h1
        subst h3
        have ndB : B.Nodup := (List.nodup_append.mp (List.nodup_append.mp nd).2.1).1
        obtain ⟨ws, F0, g1, g2, gn, gq, g0, g3, g4⟩ := ih h2 ndB (fun b hb z => hX b hb (by simp [z])) re hg
        refine ⟨ws, F0, g1, by simp [g2], gn, gq, fun b hb => by simp [g0 b hb], g3, fun ws' ds' F0' r' n0 sub => ?_⟩
        obtain ⟨B', k1, kn, k2, k3⟩ := g4 ws' ds' F0' r' n0 sub
        have qA : q ∉ A ++ C := fun z => by
          rcases List.mem_append.mp z with z | z
          · exact (List.nodup_append.mp nd).2.2 q z q (List.mem_append_left _ g2) rfl
          · exact (List.nodup_append.mp (List.nodup_append.mp nd).2.1).2.2 q g2 q z rfl
        refine ⟨A ++ (B' ++ C), h4 _ _ _ (fun u e G ru n => ru.upd g1 fun z => qA (n q z)) k1, nodup_mid nd kn k2 hX, fun b hb => ?_, by simp [k3]⟩
        simp only [List.mem_append] at hb ⊢
        rcases hb with hb | hb | hb
        · exact .inl (.inl hb)
        · exact (k2 b hb).imp (fun z => .inr (.inl z)) id
        · exact .inl (.inr (.inr hb))
    cases re with
    | @ob a C dx fs _ _ x _ hs hx re =>
      have step := fun {xs' : List V} {ds : List PyData} {F1 : List Addr} {d1 : PyData} => stepG hx re (xs' := xs') (ds := ds) (F1 := F1) (d1 := d1)
      cases r with
      | lst h ra => rw [h] at hs; cases hs
      | ex h c => rw [h] at hs; cases hs
      | tup h ra => exact (dt.2.2.2 _ _ _ _ _ hs (.inr h)).elim
      | @ob _ C' dx' fs' nm ns ds F1 h oc hpre ra =>
        rw [h] at hs
        cases hs
        unfold getP at e
        split at e
        · rename_i d1 hd
          obtain ⟨ws, F0, g1, g2, gn, gq, g0, g3, g4⟩ := step ra rfl (List.nodup_cons.mp nd).2 (fun b hb z => hX b hb (List.mem_cons_of_mem _ z)) hd e
          have qa : a ≠ q := ne_of h g1 (fun z => by cases z)
          refine ⟨ws, F0, g1, List.mem_cons_of_mem _ g2, gn, gq, fun b hb => List.mem_cons_of_mem _ (g0 b hb), g3, fun ws' ds' F0' r' n0 sub => ?_⟩
          obtain ⟨F', k1, kn, k2, k3⟩ := g4 ws' ds' F0' r' n0 sub
          refine ⟨a :: F', ?_, List.nodup_cons.mpr ⟨fun z => (k2 _ z).elim (List.nodup_cons.mp nd).1 fun z => hX _ z List.mem_cons_self, kn⟩, fun b hb => ?_, List.mem_cons_of_mem _ k3⟩
          rotate_left
          · rcases List.mem_cons.mp hb with rfl | hb
            · exact .inl List.mem_cons_self
            · exact (k2 b hb).imp (List.mem_cons_of_mem _) id
          unfold setP
          rw [hd]
          exact .ob (by rw [upd_ne qa]; exact h) oc hpre k1
        · cases e
    | @cons a xs _ _ x _ hs hx re =>
      have step := fun {xs' : List V} {ds : List PyData} {F1 : List Addr} {d1 : PyData} => stepG hx re (xs' := xs') (ds := ds) (F1 := F1) (d1 := d1)
      cases r with
      | @ob _ C' dx' fs' nm ns ds F1 h oc hpre ra => exact (dt.2.2.2 _ _ _ _ _ h hs).elim
      | ex h c => unfold getP at e; cases e
      | @lst _ xs' ds F1 h ra =>
        have e1 : xs' = xs := by
          rcases hs with hs | hs
          · exact dt.2.1 _ _ _ (SqL.of h) hs
          · exact (dt.2.2.1 _ _ _ (SqL.of h) hs).elim
        unfold getP at e
        split at e
        · rename_i d1 hd
          obtain ⟨ws, F0, g1, g2, gn, gq, g0, g3, g4⟩ := step ra e1 (List.nodup_cons.mp nd).2 (fun b hb z => hX b hb (List.mem_cons_of_mem _ z)) hd e
          have qa : a ≠ q := fun z => (List.nodup_cons.mp nd).1 (z ▸ g2)
          refine ⟨ws, F0, g1, List.mem_cons_of_mem _ g2, gn, gq, fun b hb => List.mem_cons_of_mem _ (g0 b hb), g3, fun ws' ds' F0' r' n0 sub => ?_⟩
          obtain ⟨F', k1, kn, k2, k3⟩ := g4 ws' ds' F0' r' n0 sub
          refine ⟨a :: F', ?_, List.nodup_cons.mpr ⟨fun z => (k2 _ z).elim (List.nodup_cons.mp nd).1 fun z => hX _ z List.mem_cons_self, kn⟩, fun b hb => ?_, List.mem_cons_of_mem _ k3⟩
          · unfold setP
            rw [hd]
            exact .lst (by rw [upd_ne qa]; exact h) k1
          · rcases List.mem_cons.mp hb with rfl | hb
            · exact .inl List.mem_cons_self
            · exact (k2 b hb).imp (List.mem_cons_of_mem _) id
        · cases e
      | @tup _ xs' ds F1 h ra =>
        have e1 : xs' = xs := by
          rcases hs with hs | hs
          · exact (dt.2.2.1 _ _ _ hs h).elim
          · exact dt.1 _ _ _ h hs
        unfold getP at e
        split at e
        · rename_i d1 hd
          obtain ⟨ws, F0, g1, g2, gn, gq, g0, g3, g4⟩ := step ra e1 nd hX hd e
          refine ⟨ws, F0, g1, g2, gn, gq, g0, g3, fun ws' ds' F0' r' n0 sub => ?_⟩
          obtain ⟨F', k1, kn, k2, k3⟩ := g4 ws' ds' F0' r' n0 sub
          refine ⟨F', ?_, kn, k2, k3⟩
          unfold setP
          rw [hd]
          exact .tup (sqT_upd g1 h) k1
        · cases e
theorem St0.chgP {G : Gh} {L : List Cel} {v : V} {D : PyData} {js : List Nat} {q : Addr} {ds0 : List PyData} {us : List V} {es : List Sl} {cs : List Cel} (dt : Det K H) (hc : Cels us es cs) (au : allUn es = true) (s : St0 K H G (cs ++ ⟨v, .un, D⟩ :: L)) (nb : NoBr L) (hb : G.b q = none)
    (re : Reach K H v js (.ref q)) (e : getP D js = some (.list ds0)) :
    ∃ ws, H q = some (.lst ws) ∧ ws.length = ds0.length ∧ ∀ ws' ds', Sel K H ws us ws' ds0 es ds' → St0 K (upd H q (.lst ws')) G (⟨v, .un, setP D js (.list ds')⟩ :: L) := by
  obtain ⟨Fe, E0, hu, ex0, nd0, nw0, sm0, gr0, sn0⟩ := gatherUn hc s au
  cases ex0 with
  | @un _ _ F _ E1 r e1 =>
    obtain ⟨n0, nd, n00⟩ := List.nodup_append.mp nd0
    obtain ⟨n1, n2, n3⟩ := List.nodup_append.mp nd
    have hX : ∀ b ∈ Fe, b ∉ F := fun b hb z => n00 b hb b (List.mem_append_left _ z) rfl
    obtain ⟨ws, F0, h1, h2, hn, hq, h0, h3, h4⟩ := rx_putP dt Fe r n1 hX re e
    refine ⟨ws, h1, rxAll_len h3, fun ws' ds' sel => ?_⟩
    obtain ⟨F0', F2, k1, k2, k3⟩ := sel H F0 Fe (Same.refl H) h3 hu
    have ndX : (Fe ++ F0).Nodup := List.nodup_append.mpr ⟨n0, hn, fun a ha b hb z => hX a ha (z ▸ h0 b hb)⟩
    obtain ⟨F', g1, gn, g2, g3⟩ := h4 ws' ds' F0' k1 (k3.nodup_iff.mpr (k2.nodup ndX)) fun b hb => (List.mem_append.mp (k2.subset (k3.subset hb))).symm
    have hsub : ∀ b, b ∈ F' ++ E1 → b ∈ Fe ++ (F ++ E1) := fun b hb => by
      rcases List.mem_append.mp hb with hb | hb
      · rcases g2 b hb with z | z
        · simp [z]
        · simp [z]
      · simp [hb]
    have qE : q ∉ E1 := fun z => n3 q h2 q z rfl
    have qin : q ∈ F' ++ E1 := List.mem_append_left _ g3
    refine ⟨F' ++ E1, .un g1 (e1.upd h1 qE), nodup_mid (A := []) (X := Fe) nd gn g2 (fun b hb z => n00 b hb b z rfl), fun p hp => nw0 p (hsub p hp), ?_, fun a o z => ?_, fun c hc => ?_⟩
    · rw [hide_upd_in qin]
      exact sm0.trans (hide_mono hsub)
    · rw [upd_ne (ne_of_none z hb)]
      exact gr0 a o z
    · rcases List.mem_cons.mp hc with rfl | hm
      · trivial
      · have z := (sn0 c (List.mem_cons_of_mem _ hm)).mono hsub
        have nbc := nb c hm
        obtain ⟨v', k', d'⟩ := c
        cases k' with
        | un => trivial
        | fr => obtain ⟨Fz, z⟩ := z; exact ⟨Fz, by rw [hide_upd_in qin]; exact z⟩
        | br => exact absurd rfl nbc
        | ro => show Dp K (hide (upd H q (.lst ws')) _) v' d'; rw [hide_upd_in qin]; exact z
        | rt =>
          obtain ⟨a, xs, dz, Fz, y1, y2, y3, y4⟩ := z
          refine ⟨a, xs, dz, Fz, y1, y2, ?_, by rw [hide_upd_in qin]; exact y4⟩
          have na : a ≠ q := by
            rintro rfl
            exact qE (rt_mem e1 _ hm rfl _ y1)
          rw [upd_ne na]
          exact y3
        | io => trivial
end
/-! ### the path -/
abbrev WPt := Rho → (Rho → List Nat → PyData → Prop) → Prop
def LiftPt (K : PySem.W.Frag) (i : Nat) (t : TE) (w : WPt) : Prop := ∀ (G : Gh) (H : Hp) (σ : St) (ρ : Rho) (L : List Cel) (Q : VK) (Qp : Rho → List Nat → PyData → Prop), EnvOk σ ρ → St0 K H G (lv σ ρ ++ L) → w ρ Qp →
  (∀ v0 q d H' ρ' js, σ[i]? = some (some v0) → Same H H' → Reach K H' v0 js q → Dp K H' q d → EnvOk σ ρ' → St0 K H' G (lv σ ρ' ++ L) → Qp ρ' js d → Q q H') → t σ H Q
def wP0 (i : Nat) : WPt := fun ρ Q => match ρ[i]? with
  | some (some (_, d)) => Q ρ [] d
  | _ => False
theorem lift_p0 {K : PySem.W.Frag} (i : Nat) : LiftPt K i (tVar i) (wP0 i) := by
  intro G H σ ρ L Q Qp ok s h q
  unfold wP0 at h
  split at h
  · rename_i k d e
    obtain ⟨v, e1, p1, ok2, f⟩ := ok.slot e
    exact ⟨v, e1, q v v d H ρ [] e1 (Same.refl H) .nil (s.perm (p1.append_right L)).dp ok s h⟩
  · exact h.elim
/-- (t keeps simp from going into K) -/
def wAtN (ds : List PyData) (i : Int) (K : Nat → PyData → Prop) (_ : Tg K) : Prop := match ixN ds.length i with
  | some m => (match ds[m]? with
    | some d => K m d
    | none => False)
  | none => False
def wPix (wp : WPt) (wi : WE) : WPt := fun ρ Q => wp ρ fun ρ1 js d => wi ρ1 fun ρ2 _ j => match d, j with
  | .list ds, .int n => wAtN ds n (fun m d => Q ρ2 (js ++ [m]) d) .mk
  | .tuple ds, .int n => wAtN ds n (fun m d => Q ρ2 (js ++ [m]) d) .mk
  | _, _ => False
theorem St0.b {K : PySem.W.Frag} {H : Hp} {G : Gh} {L : List Cel} (s : St0 K H G L) {b : Hp} (h : Same b H) : St0 K H ⟨G.g, b, G.f⟩ L := by
  obtain ⟨E, s⟩ := s
  exact ⟨E, s.ex, s.nd, s.nw, s.sm, h, s.sn⟩
theorem St0.gr {K : PySem.W.Frag} {H : Hp} {G : Gh} {L : List Cel} (s : St0 K H G L) : Same G.b H := by
  obtain ⟨E, s⟩ := s
  exact s.gr
theorem atI_ofN {α : Type} {xs : List α} {n : Int} {m : Nat} {x : α} (h : ixN xs.length n = some m) (e : xs[m]? = some x) : atI xs n = some x := by
  unfold atI
  rw [h]
  exact e
theorem dpAll_at {K : PySem.W.Frag} {H : Hp} : ∀ {vs : List V} {ds : List PyData} {m : Nat} {d : PyData}, DpAll K H vs ds → ds[m]? = some d → ∃ v, vs[m]? = some v ∧ Dp K H v d
  | _, _, _, _, .nil, e => by simp at e
  | _, _, 0, _, .cons r s, e => by cases e; exact ⟨_, rfl, r⟩
  | _, _, m + 1, _, .cons r s, e => by
    obtain ⟨v, h1, h2⟩ := dpAll_at (m := m) s (by simpa using e)
    exact ⟨v, by simpa using h1, h2⟩
theorem lift_pix {K : PySem.W.Frag} {i : Nat} {t ti : TE} {wp : WPt} {wi : WE} (lp : LiftPt K i t wp) (li : LiftE K ti wi) : LiftPt K i (tOp (rIx K) t ti) (wPix wp wi) := by
  intro G H σ ρ L Q Qp ok s h q
  refine lp G H σ ρ L _ _ ok s h fun v0 u d H1 ρ1 js e0 sm re dd ok1 s1 h1 => ?_
  refine li ⟨G.g, H1, G.f⟩ H1 σ ρ1 L _ _ ok1 (s1.b (Same.refl H1)) h1 fun w H2 ρ2 k j ok2 s2 h2 => ?_
  have sm2 : Same H1 H2 := s2.gr
  have s3 : St0 K H2 G (lv σ ρ2 ++ L) := s2.drop.b (s1.gr.trans sm2)
  have dj := s2.dp
  have dd2 := dp_same sm2 dd
  have re2 := re.same sm2
  split at h2
  · rename_i ds n
    cases dj
    unfold wAtN at h2
    split at h2
    · rename_i m em
      split at h2
      · rename_i dm edm
        cases dd2 with
        | @lst p xs _ hs ha =>
          obtain ⟨x, hx, dx⟩ := dpAll_at ha edm
          exact .inl ⟨_, xs, n, x, rfl, rfl, hs, atI_ofN (by rw [dpAll_len ha]; exact em) hx, q v0 x dm H2 ρ2 _ e0 (sm.trans sm2) (re2.snoc (.inl hs) hx) dx ok2 s3 h2⟩
      · exact h2.elim
    · exact h2.elim
  · rename_i ds n
    cases dj
    unfold wAtN at h2
    split at h2
    · rename_i m em
      split at h2
      · rename_i dm edm
        cases dd2 with
        | @tup p xs _ hs ha =>
          obtain ⟨x, hx, dx⟩ := dpAll_at ha edm
          exact .inr (.inl ⟨_, xs, n, x, rfl, rfl, hs, atI_ofN (by rw [dpAll_len ha]; exact em) hx, q v0 x dm H2 ρ2 _ e0 (sm.trans sm2) (re2.snoc (.inr hs) hx) dx ok2 s3 h2⟩)
      · exact h2.elim
    · exact h2.elim
  · exact h2.elim
def isL : PyData → Bool
  | .list _ => true
  | .tuple _ => false
  | .dict _ => false
  | .none => false
  | .bool _ => false
  | .int _ => false
  | .str _ => false
def ioU : Kd → Bool
  | .un => true
  | .io => true
  | .fr => false
  | .br => false
  | .ro => false
  | .rt => false
theorem St0.toUn {K : PySem.W.Frag} {H : Hp} {G : Gh} {L : List Cel} {v : V} {k : Kd} {d : PyData} (s : St0 K H G (⟨v, k, d⟩ :: L)) (h : ioU k = true) : St0 K H G (⟨v, .un, d⟩ :: L) ∧ ∀ H' d', St0 K H' G (⟨v, .un, d'⟩ :: L) → St0 K H' G (⟨v, k, d'⟩ :: L) := by
  cases k with
  | un => exact ⟨s, fun _ _ h => h⟩
  | io => exact ⟨s.ioUn.2, fun _ _ h => h.unIo s.ioUn.1⟩
  | fr => cases h
  | br => cases h
  | ro => cases h
  | rt => cases h
theorem ioU_ne {k : Kd} (h : ioU k = true) : k ≠ .br := by rintro rfl; cases h
theorem ioU_st {k : Kd} (h : ioU k = true) : stK k = true := by cases k <;> first | rfl | cases h
def allFl (es : List Sl) : Bool := es.all fun s => flat s.2
/-- the list behind the path, changed -/
def wChgP (i : Nat) (wp : WPt) (was : WA) (f : List PyData → List Sl → (List PyData → Prop) → Prop) : WS := fun κ ρ => wp ρ fun ρ1 js d => isL d = true ∧ was ρ1 fun ρ2 es => allUn es = true ∧ match ρ2[i]? with
  | some (some (k, D)) => ioU k = true ∧ (match getP D js with
    | some (.list ds) => f ds es fun ds' => κ.nx ((drB ρ2).set i (some (k, setP D js (.list ds'))))
    | _ => False)
  | _ => False
theorem lift_chgP {K : PySem.W.Frag} {i : Nat} {tp : TE} {wp : WPt} {t : TA} {was : WA} {r : V → List V → Hp → VK → Prop} {f : List PyData → List Sl → (List PyData → Prop) → Prop} (lp : LiftPt K i tp wp) (l : LiftA K t was)
    (hr : ∀ (H : Hp) (p : Addr) (vs us : List V) (ds : List PyData) (es : List Sl) (Q : VK) (Qp : List PyData → Prop), H p = some (.lst vs) → vs.length = ds.length → ArgsOk K H us (es.map ak) → us.length = es.length → f ds es Qp →
      (∀ v vs' ds', Sel K H vs us vs' ds es ds' → Qp ds' → Q v (upd H p (.lst vs'))) → r (.ref p) us H Q) :
    LiftS K (tDrop (tBM K "list" r tp (tDet K t))) (wChgP i wp was f) := by
  intro G H σ ρ L D κ hb nb ok s h q
  refine lp G H σ ρ L _ _ ok s h fun v0 u d H1 ρ1 js e0 sm re dd ok1 s1 h1 => ?_
  obtain ⟨hl, h1⟩ := h1
  have hq : ∃ p, u = .ref p ∧ tyV K "list" (.ref p) H1 := by
    cases dd <;> first | cases hl | skip
    rename_i p xs ds hs ha
    exact ⟨_, rfl, .inl ⟨rfl, _, hs⟩⟩
  obtain ⟨p, rfl, ty⟩ := hq
  refine ⟨ty, ?_⟩
  refine l ⟨G.g, H1, G.f⟩ H1 σ ρ1 L _ _ ok1 (s1.b (Same.refl H1)) h1 fun vs H2 ρ2 es cs ok2 hc s2 h2 => fun dt => ?_
  have sm2 : Same H1 H2 := s2.gr
  have s3 : St0 K H2 G (cs ++ (lv σ ρ2 ++ L)) := s2.b (s1.gr.trans sm2)
  obtain ⟨fl, h2⟩ := h2
  split at h2
  · rename_i k0 D0 e
    obtain ⟨hk, h2⟩ := h2
    split at h2
    · rename_i ds eg
      obtain ⟨v, e1, p1, ok3, g⟩ := (env_drB ok2).1.slot (dr_get e (ioU_ne hk))
      rw [e0] at e1
      cases e1
      have s40 : St0 K H2 G (⟨v0, k0, D0⟩ :: (lv σ ((drB ρ2).set i none) ++ L)) := (s3.drB ok2).drops.perm (p1.append_right L)
      obtain ⟨_, bk⟩ := s40.toUn hk
      have s41 : St0 K H2 G (⟨v0, k0, D0⟩ :: (cs ++ (lv σ ((drB ρ2).set i none) ++ L))) := (s3.drB ok2).perm (((p1.append_right L).append_left cs).trans List.perm_middle)
      have s4 := (s41.toUn hk).1.perm List.perm_middle.symm
      have nb2 : NoBr (lv σ ((drB ρ2).set i none) ++ L) := fun c hc' => by
        rcases List.mem_append.mp hc' with h | h
        · exact nb_drB ok2 c (p1.symm.subset (List.mem_cons_of_mem _ h))
        · exact nb c h
      obtain ⟨ws, w1, w2, w3⟩ := s4.chgP dt hc fl nb2 (by rw [hb]; rfl) (re.same sm2) eg
      refine hr H2 p ws vs ds es _ _ w1 w2 (argsOk_of hc s3) hc.len h2 fun z ws' ds' sel hq => ?_
      have s5 := bk _ _ (w3 ws' ds' sel)
      obtain ⟨ok4, p4⟩ := g k0 (setP D0 js (.list ds')) (ioU_st hk)
      exact q.nx σ _ _ ok4 (s5.perm (p4.append_right L)) hq
    · exact h2.elim
  · exact h2.elim
section
variable {K : PySem.W.Frag}
theorem hr_app (H : Hp) (p : Addr) (vs us : List V) (ds : List PyData) (es : List Sl) (Q : VK) (Qp : List PyData → Prop) (hp : H p = some (.lst vs)) (hl : vs.length = ds.length) (ha : ArgsOk K H us (es.map ak)) (hlen : us.length = es.length) (hf : fApp ds es Qp)
    (q : ∀ v vs' ds', Sel K H vs us vs' ds es ds' → Qp ds' → Q v (upd H p (.lst vs'))) : rAppend (.ref p) us H Q := by
  unfold fApp at hf
  split at hf
  · cases us with
    | nil => simp at hlen
    | cons v us =>
      cases us with
      | cons _ _ => simp at hlen
      | nil => exact ⟨p, vs, v, rfl, rfl, hp, by rw [hl]; exact hf.1, q _ _ _ sel_app hf.2⟩
  · exact hf.elim
theorem hr_ins (H : Hp) (p : Addr) (vs us : List V) (ds : List PyData) (es : List Sl) (Q : VK) (Qp : List PyData → Prop) (hp : H p = some (.lst vs)) (hl : vs.length = ds.length) (ha : ArgsOk K H us (es.map ak)) (hlen : us.length = es.length) (hf : fIns ds es Qp)
    (q : ∀ v vs' ds', Sel K H vs us vs' ds es ds' → Qp ds' → Q v (upd H p (.lst vs'))) : tIns (.ref p) us H Q := by
  unfold fIns at hf
  split at hf
  · rename_i k0 n k d
    cases us with
    | nil => simp at hlen
    | cons u us =>
      cases us with
      | nil => simp at hlen
      | cons v us =>
        cases us with
        | cons _ _ => simp at hlen
        | nil =>
          have hu : u = .int n := by
            rw [List.map_cons] at ha
            cases k0 with
            | ro => cases ha with | ro h _ => cases h; rfl
            | un => cases ha with | fr h _ => obtain ⟨_, h⟩ := h; cases h; rfl
            | fr => cases ha with | fr h _ => obtain ⟨_, h⟩ := h; cases h; rfl
            | br => cases ha with | fr h _ => obtain ⟨_, h⟩ := h; cases h; rfl
            | rt => cases ha with | fr h _ => obtain ⟨_, h⟩ := h; cases h; rfl
            | io => cases ha with | fr h _ => obtain ⟨_, h⟩ := h; cases h; rfl
          subst hu
          exact ⟨p, vs, n, v, rfl, rfl, hp, by rw [hl]; exact hf.1, hf.2.1, hf.2.2.1, q _ _ _ sel_ins hf.2.2.2⟩
  · exact hf.elim
theorem hr_popA (H : Hp) (p : Addr) (vs us : List V) (ds : List PyData) (es : List Sl) (Q : VK) (Qp : List PyData → Prop) (hp : H p = some (.lst vs)) (hl : vs.length = ds.length) (ha : ArgsOk K H us (es.map ak)) (hlen : us.length = es.length) (hf : fPopA ds es Qp)
    (q : ∀ v vs' ds', Sel K H vs us vs' ds es ds' → Qp ds' → Q v (upd H p (.lst vs'))) : rPopAt (.ref p) us H Q := by
  unfold fPopA at hf
  split at hf
  · rename_i k0 n
    cases us with
    | nil => simp at hlen
    | cons u us =>
      cases us with
      | cons v us => simp at hlen
      | nil =>
        have hu : u = .int n := by
          rw [List.map_cons] at ha
          cases k0 with
          | ro => cases ha with | ro h _ => cases h; rfl
          | un => cases ha with | fr h _ => obtain ⟨_, h⟩ := h; cases h; rfl
          | fr => cases ha with | fr h _ => obtain ⟨_, h⟩ := h; cases h; rfl
          | br => cases ha with | fr h _ => obtain ⟨_, h⟩ := h; cases h; rfl
          | rt => cases ha with | fr h _ => obtain ⟨_, h⟩ := h; cases h; rfl
          | io => cases ha with | fr h _ => obtain ⟨_, h⟩ := h; cases h; rfl
        subst hu
        obtain ⟨h1, h2, k, hk, lt, hq⟩ := hf
        refine ⟨p, vs, n, k, vs[k]'(by omega), rfl, rfl, hp, h1, h2, by rw [hl]; exact hk, List.getElem?_eq_getElem _, q _ _ _ (fun H F Fe _ r re => ?_) hq⟩
        obtain ⟨F', a, e⟩ := rxAll_erase k r
        exact ⟨F', F', a, e.trans (List.sublist_append_right _ _), .refl _⟩
  · exact hf.elim
end
/-! ### an expression that is read with all names frozen -/
def frK (k : Kd) : Kd := match k with
  | .un => .fr
  | .fr => .fr
  | .br => .fr
  | .ro => .ro
  | .rt => .fr
  | .io => .fr
def frz : Rho → Rho
  | [] => []
  | none :: ρ => none :: frz ρ
  | some (k, d) :: ρ => some (frK k, d) :: frz ρ
theorem env_frz {σ : St} {ρ : Rho} (h : EnvOk σ ρ) : EnvOk σ (frz ρ) := by
  induction h with
  | e0 => exact .e0
  | @e1 v k d σ ρ hs h ih => exact .e1 (by cases k <;> rfl) ih
  | @e2 o σ ρ h ih => exact .e2 ih
theorem frz_cells {K : PySem.W.Frag} {H : Hp} {σ : St} {ρ : Rho} (h : EnvOk σ ρ) : ∀ {G : Gh} {L : List Cel}, St0 K H G (lv σ ρ ++ L) → Excl K H Frm0 (lv σ (frz ρ)) [] ∧ ∀ c ∈ lv σ (frz ρ), Seen K H [] c := by
  induction h with
  | e0 => intro G L s; exact ⟨.nil (fun p hp => (nomatch hp)), fun c hc => by simp [lv] at hc⟩
  | @e1 v k d σ ρ hs h ih =>
    intro G L s
    have s : St0 K H G (⟨v, k, d⟩ :: (lv σ ρ ++ L)) := s
    obtain ⟨i1, i2⟩ := ih s.drop
    have fr : k ≠ .ro → Excl K H Frm0 (⟨v, .fr, d⟩ :: lv σ (frz ρ)) [] ∧ ∀ c ∈ (⟨v, .fr, d⟩ :: lv σ (frz ρ) : List Cel), Seen K H [] c := fun hk => ⟨.fr i1, fun c hc => by
      rcases List.mem_cons.mp hc with rfl | hc
      · show ∃ F, Rx K (hide H []) v d F
        rw [hide_nil]
        exact s.rx hk
      · exact i2 c hc⟩
    cases k with
    | un => exact fr (by decide)
    | fr => exact fr (by decide)
    | br => exact fr (by decide)
    | rt => exact fr (by decide)
    | io => exact fr (by decide)
    | ro =>
      refine ⟨.ro i1, fun c hc => ?_⟩
      rcases List.mem_cons.mp hc with rfl | hc
      · show Dp K (hide H []) v d
        rw [hide_nil]
        exact s.dp
      · exact i2 c hc
  | @e2 o σ ρ h ih =>
    intro G L s
    rw [lv_none] at s
    show Excl K H Frm0 (lv (o :: σ) (none :: frz ρ)) [] ∧ ∀ c ∈ lv (o :: σ) (none :: frz ρ), Seen K H [] c
    rw [lv_none]
    exact ih s
theorem st_frz {K : PySem.W.Frag} {H : Hp} {G : Gh} {σ : St} {ρ : Rho} {L : List Cel} (ok : EnvOk σ ρ) (s : St0 K H G (lv σ ρ ++ L)) : St0 K H ⟨H, H, Frm0⟩ (lv σ (frz ρ) ++ []) := by
  rw [List.append_nil]
  obtain ⟨e, sn⟩ := frz_cells ok s
  have z : Same H (hide H []) := by rw [hide_nil]; exact Same.refl H
  exact ⟨[], ⟨e, List.nodup_nil, fun p hp => absurd hp (by simp), z, Same.refl H, sn⟩⟩
def wPur (w : WE) : WE := fun ρ Q => w (frz ρ) fun _ k d => (k = .un ∨ flat d = true) ∧ Q ρ .un d
def wPurT (w : WT) : WT := fun ρ Q => w (frz ρ) fun _ b => Q ρ b
theorem lift_pur {K : PySem.W.Frag} {t : TE} {w : WE} (l : LiftE K t w) : LiftE K t (wPur w) := by
  intro G H σ ρ L Q Qp ok s h q
  refine l ⟨H, H, Frm0⟩ H σ (frz ρ) [] Q _ (env_frz ok) (st_frz ok s) h fun v H1 ρ1 k d ok1 s1 h1 => ?_
  have s2 : St0 K H1 ⟨H, H, Frm0⟩ (⟨v, .un, d⟩ :: []) := by
    have s2 : St0 K H1 ⟨H, H, Frm0⟩ (⟨v, k, d⟩ :: []) := s1.noenv
    rcases h1.1 with rfl | f
    · exact s2
    · exact s2.flatUn f
  obtain ⟨E, s2⟩ := s2
  have nw := s2.nw
  have nd := s2.nd
  have gr := s2.gr
  cases s2.ex with
  | @un _ _ F _ E' r e' =>
    refine q v H1 ρ .un d ok (s.fresh gr r (List.nodup_append.mp nd).1 fun p hp => nw p (List.mem_append_left _ hp)) h1.2
theorem lift_purT {K : PySem.W.Frag} {t : TT} {w : WT} (l : LiftT K t w) : LiftT K t (wPurT w) := by
  intro G H σ ρ L Q Qp ok s h q
  refine l ⟨H, H, Frm0⟩ H σ (frz ρ) [] Q _ (env_frz ok) (st_frz ok s) h fun b H1 ρ1 ok1 s1 h1 => ?_
  exact q b H1 ρ ok (s.grow s1.gr) h1
/-! ### a name's own list is put into a list, and the name goes on telling it -/
theorem put2 {K : PySem.W.Frag} {H : Hp} {G : Gh} {σ : St} {ρ : Rho} {L : List Cel} {i j : Nat} {v w : V} {k l : Kd} {d e : PyData} (k1 : stK k = true) (k2 : stK l = true) (ok : EnvOk σ ρ) (s : St0 K H G (⟨v, k, d⟩ :: ⟨w, l, e⟩ :: (lv σ ρ ++ L))) :
    EnvOk ((σ.set i (some v)).set j (some w)) ((ρ.set i (some (k, d))).set j (some (l, e))) ∧ St0 K H G (lv ((σ.set i (some v)).set j (some w)) ((ρ.set i (some (k, d))).set j (some (l, e))) ++ L) := by
  have ok2 := (ok.put i v k d k1).1
  have s2 : St0 K H G (⟨v, k, d⟩ :: (lv σ ρ ++ (⟨w, l, e⟩ :: L))) := s.perm (List.Perm.cons _ List.perm_middle.symm)
  have s3 : St0 K H G (lv (σ.set i (some v)) (ρ.set i (some (k, d))) ++ (⟨w, l, e⟩ :: L)) := St0.put k1 ok s2
  exact ⟨(ok2.put j w l e k2).1, St0.put k2 ok2 (s3.perm List.perm_middle)⟩
/-- xs.append(x) -/
def wAppA (i j : Nat) : WS := fun κ ρ => isLst ρ i ∧ match ρ[i]?, ρ[j]? with
  | some (some (.un, .list ds)), some (some (.un, d)) => ds.length < sizeLine ∧ i ≠ j ∧ κ.nx (((drB ρ).set i (some (.un, .list (ds ++ [d])))).set j (some (.br, d)))
  | _, _ => False
theorem rxAll_last {K : PySem.W.Frag} {H : Hp} : ∀ {vs : List V} {ds : List PyData} {v : V} {d : PyData} {F : List Addr}, vs.length = ds.length → RxAll K H (vs ++ [v]) (ds ++ [d]) F → ∃ F', Rx K H v d F'
  | [], [], v, d, F, _, h => by
    cases h with
    | cons r s => exact ⟨_, r⟩
  | [], _ :: _, _, _, _, e, _ => by simp at e
  | _ :: _, [], _, _, _, e, _ => by simp at e
  | _ :: vs, _ :: ds, v, d, F, e, h => by
    cases h with
    | cons r s => exact rxAll_last (by simpa using e) s
theorem St0.addBr {K : PySem.W.Frag} {H : Hp} {G : Gh} {L : List Cel} {v : V} {d : PyData} {F : List Addr} (s : St0 K H G L) (r : Rx K H v d F) : St0 K H G (⟨v, .br, d⟩ :: L) := by
  obtain ⟨E, s⟩ := s
  refine ⟨E, .br s.ex, s.nd, s.nw, s.sm, s.gr, fun c hc => ?_⟩
  rcases List.mem_cons.mp hc with rfl | hc
  · exact ⟨F, r⟩
  · exact s.sn c hc
theorem lift_appA {K : PySem.W.Frag} {i j : Nat} : LiftS K (tDrop (tBM K "list" rAppend (tVar i) (tCons (tVar j) tNil))) (wAppA i j) := by
  intro G H σ ρ L D κ hb nb ok s h q
  obtain ⟨h0, h⟩ := h
  obtain ⟨p, e0, ty⟩ := isLst_ty ok s h0
  refine ⟨_, e0, ty, ?_⟩
  split at h
  · rename_i ds d ei ej
    obtain ⟨hz, hij, h⟩ := h
    -- the slots without what is borrowed
    have okB := (env_drB ok).1
    have ejB := dr_get ej (by decide)
    have eiB := dr_get ei (by decide)
    obtain ⟨v, e1, p1, ok2, f⟩ := okB.slot ejB
    have s1 : St0 K H G (⟨v, .un, d⟩ :: (lv σ ((drB ρ).set j none) ++ L)) := (s.drB (cs := []) ok).perm (p1.append_right L)
    have eiB' : ((drB ρ).set j none)[i]? = some (some (.un, .list ds)) := by rw [List.getElem?_set_ne (fun z => hij z.symm)]; exact eiB
    have nbE : NoBr (lv σ ((drB ρ).set j none)) := fun c hc => nb_drB ok c (p1.symm.subset (List.mem_cons_of_mem _ hc))
    obtain ⟨p', ws, e2, hp, hl, _, fin⟩ := St0.own (cs := [⟨v, .un, d⟩]) (us := [v]) (es := [(.un, d)]) ok2 eiB' (.cons .nil) s1 rfl nb hb nbE
    rw [e0] at e2
    cases e2
    obtain ⟨k', q1, ok3, s3⟩ := fin (ws ++ [v]) (ds ++ [d]) sel_app (fun k' => k' = .un) (by unfold wApp; rw [if_neg (by decide), if_pos (by rfl)])
    subst q1
    refine ⟨v, e1, p, ws, v, rfl, rfl, hp, by rw [hl]; exact hz, ?_⟩
    -- the new state: the name goes on telling the last item
    obtain ⟨v', e3, p3, ok4, g⟩ := ok3.slot (i := i) (k := .un) (d := .list (ds ++ [d])) (by rw [List.getElem?_set_self]; have := (List.getElem?_eq_some_iff.mp eiB').1; exact this)
    rw [e0] at e3
    cases e3
    have r := (s3.perm (p3.append_right L)).rx (fun z => by cases z)
    obtain ⟨F, r⟩ := r
    have hF : ∃ F', Rx K (upd H p (.lst (ws ++ [v]))) v d F' := by
      cases r with
      | lst hh ra =>
        rw [upd_same] at hh
        cases hh
        exact rxAll_last hl ra
    obtain ⟨F', hF⟩ := hF
    have s4 := s3.addBr hF
    have hjl : j < ((drB ρ).set j none).length := by rw [List.length_set]; exact (List.getElem?_eq_some_iff.mp ejB).1
    have fin2 : EnvOk σ (((drB ρ).set i (some (.un, .list (ds ++ [d])))).set j (some (.br, d))) ∧ St0 K (upd H p (.lst (ws ++ [v]))) G (lv σ (((drB ρ).set i (some (.un, .list (ds ++ [d])))).set j (some (.br, d))) ++ L) := by
      have e5 : ((drB ρ).set i (some (.un, .list (ds ++ [d])))).set j (some (.br, d)) = (((drB ρ).set j none).set i (some (.un, .list (ds ++ [d])))).set j (some (.br, d)) := by
        rw [List.set_comm _ _ hij, List.set_comm _ _ hij, List.set_set]
      rw [e5]
      have hv : σ.set j (some v) = σ := by
        have hjs := (List.getElem?_eq_some_iff.mp e1)
        obtain ⟨h1, h2⟩ := hjs
        rw [← h2]
        exact List.set_getElem_self h1
      have z1 := (ok3.put j v .br d rfl).1
      have z2 := St0.put (K := K) (k := .br) (i := j) rfl ok3 s4
      rw [hv] at z1 z2
      exact ⟨z1, z2⟩
    exact q.nx σ _ _ fin2.1 fin2.2 h
  · exact h.elim
/-- xs = [x] -/
def wAsgA (i j : Nat) : WS := fun κ ρ => match ρ[j]? with
  | some (some (.un, d)) => i ≠ j ∧ κ.nx ((ρ.set i (some (.un, .list [d]))).set j (some (.br, d)))
  | _ => False
theorem lift_asgA {K : PySem.W.Frag} {i j : Nat} : LiftS K (tAsg (tLst (tCons (tVar j) tNil)) (gName i)) (wAsgA i j) := by
  intro G H σ ρ L D κ hb nb ok s h q
  unfold wAsgA at h
  split at h
  · rename_i d ej
    obtain ⟨hij, h⟩ := h
    obtain ⟨v, e1, p1, ok2, f⟩ := ok.slot ej
    refine ⟨v, e1, ?_⟩
    refine ⟨(show 1 ≤ sizeLine by decide), fun p hp => ?_⟩
    have s1 : St0 K H G ([⟨v, .un, d⟩] ++ (lv σ (ρ.set j none) ++ L)) := s.perm (p1.append_right L)
    obtain ⟨k, qk, s2⟩ := mkLst (ds := [(.un, d)]) (.cons .nil) s1 (Q := fun k => k = .un) (by unfold wDisp; rw [if_pos (by rfl)]) hp
    subst qk
    have s2 : St0 K (upd H p (.lst [v])) G (⟨.ref p, .un, .list [d]⟩ :: (lv σ (ρ.set j none) ++ L)) := s2
    have r := s2.rx (fun z => by cases z)
    obtain ⟨F, r⟩ := r
    have hF : ∃ F', Rx K (upd H p (.lst [v])) v d F' := by
      cases r with
      | lst hh ra =>
        rw [upd_same] at hh
        cases hh
        cases ra with
        | cons r s => exact ⟨_, r⟩
    obtain ⟨F', hF⟩ := hF
    have s3 := s2.addBr hF
    have hv : (σ.set i (some (.ref p))).set j (some v) = σ.set i (some (.ref p)) := by
      obtain ⟨h1, h2⟩ := List.getElem?_eq_some_iff.mp e1
      rw [List.set_comm _ _ hij, ← h2, List.set_getElem_self h1]
    have z := put2 (i := i) (j := j) (k := .un) (l := .br) rfl rfl ok2 (s3.perm (.swap _ _ _))
    rw [hv] at z
    have e5 : ((ρ.set j none).set i (some (.un, .list [d]))).set j (some (.br, d)) = (ρ.set i (some (.un, .list [d]))).set j (some (.br, d)) := by
      rw [List.set_comm _ _ (fun z => hij z.symm), List.set_set]
    rw [e5] at z
    exact q.nx _ _ _ z.1 z.2 h
  · exact h.elim
end PL
namespace PL
section
open PySem PySem.Spec PyProof.Rows
variable {prog : Program} {w : World} {A : Around} {E : Value → Shared → Prop} {s : Shared}
/-- a new list takes in a reversed walk over a list -/
theorem ext_rev {R : Result → Shared → Prop} {it l : Addr} {items : Array Value} (hh : A.handled = none) (hit : s.heap.IsRevIter it l ((items.size : Int) - 1)) (hl : s.heap.IsList l items) (hne : l ≠ it) (hn : items.size ≤ sizeLine)
    (S : Addr) (res : Value) (c0 : Nat) (hS : s.heap.get? S = some { cls := .type "list", data := .seq #[] c0 }) (hSi : S ≠ it) (hSl : S ≠ l)
    (hR : ∀ h' tk acc' c', (∀ b o, b ≠ S → b ≠ it → s.heap.get? b = some o → h'.get? b = some o) → h'.get? S = some { cls := .type "list", dict := none, data := .seq acc' c', slots := #[] } →
      ItemsOf (fun i v => items[items.size - 1 - i]? = some v) acc' items.size → R (.ok (.ret res)) { s with heap := h', toks := tk }) :
    wpAny (model prog w) A.in1 (Builtin.List.listExtendWith (.ref S) (.ref it) res)
      (fun fin s' => match fin with | .done f => R (.ok f) s' | .again c' => c'.quiet = true ∧ codeAny (model prog w) A c' R s') (fun e s' => R (.error e) s') s := by
  have W := (Walks.listRev (prog := prog) (w := w) (A := A.in1) hh it l hne items).toS
  have hSf : S ∉ [it, l] := by simp only [List.mem_cons, List.not_mem_nil, or_false, not_or]; exact ⟨hSi, hSl⟩
  have hT : s.TypeIs (.ref it) "list_reverseiterator" := hit.typeIs
  have h1 : Builtin.List.listSameRef (.ref S) (.ref it) = false := by simp [Builtin.List.listSameRef, hSi]
  unfold Builtin.List.listExtendWith
  refine wpAny_bind (wpAny_typeOf hT ?_); rw [if_neg (by rw [h1]; decide)]
  refine wpAny_bind (wpAny_pyIter_revIter (s := s) hit ?_); refine wpAny_bind (wpAny_holding ?_); unfold Builtin.List.listLengthHint
  refine wpAny_bind (wpAny_specialOf hT RT.nolen_lri ?_); show wpAny _ A.in1 (specialOf (Value.ref it) (Str.ofString "__length_hint__") >>= _) _ _ s
  refine wpAny_bind (wpAny_specialOf hT RT.hint_lri ?_); generalize hid : ("list_reverseiterator.__length_hint__" : String) = id0
  wp_delta; rw [show splitId id0 = some ("list_reverseiterator", "__length_hint__") from by subst hid; decide +kernel]; subst hid
  refine wpAny_bind (wpAny_isInstance (b := true) hT (by rw [isSubtype_type]; kernel_rfl) ?_); refine wpAny_pure ?_; rw [if_neg (by decide)]
  have e0 : ((items.size : Nat) : Int) - 1 - ((0 : Nat) : Int) = (items.size : Int) - 1 := by simp
  refine wpAny_pure ⟨plainId_quiet F.plain_extend_loop _, codeAny_extend_loopS W hn S hSf res items.size 0 _ #[] c0 rfl (Nat.zero_le _) ⟨Nat.zero_le _, by rw [e0]; exact hit, hl⟩ hS (ItemsOf.nil _) fun s' acc' c' hm hS' hacc => ?_⟩
  rw [Moved.eq_with hm]; refine hR s'.heap s'.toks acc' c' (fun b o hb hbi e => hm.heap b o (fun hmem => ?_) e) hS' hacc
  rcases List.mem_cons.mp hmem with e' | hmem
  · exact hb e'
  · exact hbi (List.mem_singleton.mp hmem)
theorem init_rev {R : Result → Shared → Prop} {it l : Addr} {items : Array Value} (hh : A.handled = none) (hit : s.heap.IsRevIter it l ((items.size : Int) - 1)) (hl : s.heap.IsList l items) (hne : l ≠ it) (hn : items.size ≤ sizeLine)
    (S : Addr) (hS : s.heap.get? S = some { cls := .type "list", data := .seq #[] }) (hSi : S ≠ it) (hSl : S ≠ l)
    (hR : ∀ h' tk acc' c', (∀ b o, b ≠ S → b ≠ it → s.heap.get? b = some o → h'.get? b = some o) → h'.get? S = some { cls := .type "list", dict := none, data := .seq acc' c', slots := #[] } →
      ItemsOf (fun i v => items[items.size - 1 - i]? = some v) acc' items.size → R (.ok (.ret .none)) { s with heap := h', toks := tk }) :
    wpAny (model prog w) A.in1 (Builtin.«list.__init__» ⟨[.ref S, .ref it], []⟩)
      (fun fin s' => match fin with | .done f => R (.ok f) s' | .again c' => c'.quiet = true ∧ codeAny (model prog w) A c' R s') (fun e s' => R (.error e) s') s := by
  show wpAny _ _ (do let old ← Builtin.List.listItems (.ref S); Builtin.List.listUpdate (.ref S) (fun _ => #[]); letGo old.toList.reverse; Builtin.List.listExtendWith (.ref S) (.ref it) .none) _ _ s
  refine wpAny_bind ?_; unfold Builtin.List.listItems; refine wpAny_bind (wpAny_seqItems hS rfl (wpAny_pure ?_))
  show wpAny _ _ (updateSeq S (fun _ => #[]) >>= fun _ => letGo (#[] : Array Value).toList.reverse >>= fun _ => Builtin.List.listExtendWith (.ref S) (.ref it) .none) _ _ s
  refine wpAny_bind (wpAny_updateSeq hS rfl ?_); have hS2 := Heap.get?_update_self (Obj.mapSeq (fun _ => (#[] : Array Value))) hS rfl
  have oth : ∀ b o, b ≠ S → s.heap.get? b = some o → (s.heap.update S (Obj.mapSeq (fun _ => (#[] : Array Value)))).get? b = some o := fun b o hb e => (Heap.get?_update_other _ _ (Ne.symm hb)).trans e
  refine wpAny_bind (wpAny_letGo ?_)
  obtain ⟨ol, hol, hl2⟩ := id hl
  refine ext_rev hh (hit.at fun o e => oth it o (Ne.symm hSi) e) ⟨ol, oth l ol (Ne.symm hSl) hol, hl2⟩ hne hn S .none _ hS2 hSi hSl fun h' tk acc' c' hk hS' hacc => ?_
  exact hR h' tk acc' c' (fun b o hb hbi e => hk b o hb hbi (oth b o hb e)) hS' hacc
theorem call_list_revit {Q : Value → Shared → Prop} {it l : Addr} {items : Array Value} (hh : A.handled = none) (hit : s.heap.IsRevIter it l ((items.size : Int) - 1)) (hl : s.heap.IsList l items) (hne : l ≠ it) (hn : items.size ≤ sizeLine)
    (hQ : ∀ h' tk acc' c', (∀ b o, b ≠ it → s.heap.get? b = some o → h'.get? b = some o) →
      h'.get? s.heap.objs.size = some { cls := .type "list", dict := none, data := .seq acc' c', slots := #[] } → ItemsOf (fun i v => items[items.size - 1 - i]? = some v) acc' items.size → Q (.ref s.heap.objs.size) { s with heap := h', toks := tk }) :
    wpAny (model prog w) A (call (.type "list") [.ref it]) Q E s := by
  refine callType_codes (Q₁ := fun obj s₁ => obj = .ref s.heap.objs.size ∧ s₁ = { s with heap := s.heap.push { cls := .type "list", data := .seq #[] } }) F.called_list (F.typeCall_list_1 _) F.entry_list_init (code_list_new _ ⟨rfl, rfl⟩) fun obj s₁ h₁ => ?_
  obtain ⟨rfl, rfl⟩ := h₁
  have hS : (s.heap.push { cls := .type "list", data := .seq #[] }).get? s.heap.objs.size = some { cls := .type "list", data := .seq #[] } := Heap.get?_push_size _ rfl
  obtain ⟨oi, hoi, _⟩ := id hit
  obtain ⟨ol, hol, _⟩ := id hl
  refine ⟨⟨_, hS, rfl⟩, F.args_list_init_2 _ _, init_rev (A := A.in1) hh (hit.at fun o e => Heap.get?_push_of_some _ e) (hl.push _) hne hn _ hS (Nat.ne_of_gt (Heap.lt_size hoi)) (Nat.ne_of_gt (Heap.lt_size hol)) fun h' tk acc' c' hk hS' hacc => ?_⟩
  exact ⟨rfl, hQ h' tk acc' c' (fun b o hb e => hk b o (Nat.ne_of_lt (Heap.lt_size e)) hb (Heap.get?_push_of_some _ e)) hS' hacc⟩
end
section
open PySem PySem.Spec L2 PyProof.Rows
/-- list(reversed(x)), x a list: a new list -/
def tLstRev (K : PySem.W.Frag) (te : TE) : TE := fun σ H Q => te σ H fun v H1 => ∃ (a : Addr) (xs : List V), v = .ref a ∧ SqL K H1 a xs ∧ ∀ q, H1 q = none → Q (.ref q) (upd H1 q (.lst xs.reverse))
theorem pe_lstRev {X : Cx} {e : Expr} {te : TE} {p p2 pos pos2 : Pos} (hc : X.calm = true) (hg : Gl X "list") (hm : X.mg "list" = none) (hg2 : Gl X "reversed") (hm2 : X.mg "reversed" = none) (he : PE X e te)
    (hs : starEach [e] X.env = (false, eval e X.env) :: starEach [] X.env) :
    PE X (.Call (.Name "list" p) [.Call (.Name "reversed" p2) [e] [] pos2] [] pos) (tLstRev X.K te) := by
  refine ⟨fun pins s σ H Q I h => ?_⟩
  have hs2 : starEach [.Call (.Name "reversed" p2) [e] [] pos2] X.env = (false, eval (.Call (.Name "reversed" p2) [e] [] pos2) X.env) :: starEach [] X.env := rfl
  refine Call_ (ld_blt I hg hm boot_list (PyProof.Rows.callWith_type1 (args_cons (Call_ (ld_blt I hg2 hm2 PyProof.Rows.boot_reversed (PyProof.Rows.callWith_type1 (args_cons (thn (he.run pins s σ H _ I h) fun u s1 ⟨v, H1, I1, r1, q1⟩ => args_nil ?_) hs) hs rfl))) hs2) hs2 rfl))
  obtain ⟨a, xs, rfl, hq, q⟩ := q1
  obtain rfl : u = Value.ref a := r1
  obtain ⟨its, rv, p', hz⟩ := I1.list hq
  refine call_reversed_list p'.isList (args_nil ?_)
  obtain ⟨ol, hol, hl2⟩ := id p'.isList
  have hne : a ≠ s1.heap.objs.size := Nat.ne_of_lt (Heap.lt_size hol)
  have hn : its.toArray.size ≤ sizeLine := by rw [List.size_toArray, ← rv.length]; exact hz
  refine call_list_revit (s := { s1 with heap := s1.heap.push (revObj a ((its.toArray.size : Int) - 1)) }) (I1.ok.hd hc) ⟨_, Heap.get?_push_size _ rfl, rfl, rfl⟩ (p'.isList.push _) hne hn fun h' tk acc c' hk hS hi => ?_
  have k0 : ∀ b o, s1.heap.get? b = some o → h'.get? b = some o := fun b o z => hk b o (Nat.ne_of_lt (Heap.lt_size z)) (Heap.get?_push_of_some _ z)
  have sz : (s1.heap.push (revObj a ((its.toArray.size : Int) - 1))).objs.size = s1.heap.objs.size + 1 := Heap.size_push _ _
  have ge : s1.heap.objs.size ≤ (s1.heap.push (revObj a ((its.toArray.size : Int) - 1))).objs.size := by rw [sz]; exact Nat.le_succ _
  refine ⟨.ref (s1.heap.push (revObj a ((its.toArray.size : Int) - 1))).objs.size, upd H1 (s1.heap.push (revObj a ((its.toArray.size : Int) - 1))).objs.size (.lst xs.reverse),
    I1.laid (t' := tk) k0 ge (show ObjOk X.prog X.w _ _ _ (.lst xs.reverse) from ⟨by rw [List.length_reverse]; exact hz, acc.toList, c', RT.vals_rev rv hi, ?_⟩), rfl, q _ (I1.hok.fresh ge)⟩
  rw [Array.toArray_toList]
  exact hS
theorem rxAll_rev0 {K : PySem.W.Frag} {H : Hp} : ∀ {vs : List V} {ds : List PyData}, RxAll K H vs ds [] → RxAll K H vs.reverse ds.reverse [] := by
  have gen : ∀ {vs : List V} {ds : List PyData} {F : List Addr}, RxAll K H vs ds F → F = [] → RxAll K H vs.reverse ds.reverse [] := by
    intro vs ds F h
    induction vs generalizing ds F with
    | nil => intro _; cases h; exact .nil
    | cons v vs ih =>
      intro e
      cases h with
      | cons r s =>
        obtain ⟨e1, e2⟩ := List.append_eq_nil_iff.mp e
        subst e1 e2
        rw [List.reverse_cons, List.reverse_cons]
        exact rxAll_app (ih s rfl) (.cons r .nil)
  intro vs ds h
  exact gen h rfl
theorem flats_rev : ∀ ds : List PyData, flats ds = true → flats ds.reverse = true
  | [], _ => rfl
  | d :: ds, h => by
    have h2 := Bool.and_eq_true_iff.mp (show (flat d && flats ds) = true from h)
    rw [List.reverse_cons, flats_app, flats_rev ds h2.2]
    show (true && (flat d && true)) = true
    rw [h2.1]; rfl
theorem rxAll_rev {K : PySem.W.Frag} {H : Hp} : ∀ {vs : List V} {ds : List PyData} {F : List Addr}, RxAll K H vs ds F → ∃ F', RxAll K H vs.reverse ds.reverse F' ∧ F'.Perm F
  | _, _, _, .nil => ⟨[], .nil, .nil⟩
  | _, _, _, .cons (F := F) (F' := F') r s => by
    obtain ⟨F2, s2, p2⟩ := rxAll_rev s
    rw [List.reverse_cons, List.reverse_cons]
    refine ⟨F2 ++ F, ?_, (p2.append_right F).trans List.perm_append_comm⟩
    have := rxAll_app s2 (.cons (F := F) (F' := []) r .nil)
    rw [List.append_nil] at this
    exact this
/-! ### list(range(n)) -/
def wLrg (w : WE) : WE := fun ρ Q => w ρ fun ρ1 k d => match d with
  | .int n => 0 ≤ n ∧ n ≤ 16777216 ∧ Q ρ1 .un (.list ((List.range n.toNat).map fun i => .int (i : Nat)))
  | _ => False
theorem rxAll_rg {K : PySem.W.Frag} {H : Hp} (n : Int) : RxAll K H (rgV 0 n) ((List.range n.toNat).map fun i => PyData.int (i : Nat)) [] := by
  unfold rgV
  rw [show (n - 0).toNat = n.toNat by omega]
  generalize List.range n.toNat = l
  induction l with
  | nil => exact .nil
  | cons i l ih =>
    rw [List.map_cons, List.map_cons, Int.zero_add]
    exact RxAll.cons (F := []) (F' := []) (.int _) ih
theorem lift_lrg {K : PySem.W.Frag} {ta : TE} {wa : WE} (l : LiftE K ta wa) : LiftE K (tLstRg (tRg1 ta)) (wLrg wa) := by
  intro G H σ ρ L Q Qp ok s h q
  refine l G H σ ρ L _ _ ok s h fun v H1 ρ1 k d ok1 s1 h1 => ?_
  have dv := s1.dp
  split at h1
  · rename_i n
    obtain ⟨n0, n1, h1⟩ := h1
    cases dv
    exact ⟨n, rfl, RgOk.of_le (by omega) n1 (by omega) n0, fun p hp => q _ _ ρ1 .un _ ok1 (s1.drop.newUn (rxAll_rg n) hp) h1⟩
  · exact h1.elim
def lrvOk (k : Kd) (ds : List PyData) : Bool := match k with
  | .un => true
  | .fr => flats ds
  | .br => flats ds
  | .ro => flats ds
  | .rt => flats ds
  | .io => flats ds
def wLrev (w : WE) : WE := fun ρ Q => w ρ fun ρ1 k d => match d with
  | .list ds => lrvOk k ds = true ∧ Q ρ1 .un (.list ds.reverse)
  | _ => False
theorem lift_lrev {K : PySem.W.Frag} {ta : TE} {wa : WE} (l : LiftE K ta wa) : LiftE K (tLstRev K ta) (wLrev wa) := by
  intro G H σ ρ L Q Qp ok s h q
  refine l G H σ ρ L _ _ ok s h fun v H1 ρ1 k d ok1 s1 h1 => ?_
  have dv := s1.dp
  split at h1
  · rename_i ds
    obtain ⟨hk, h1⟩ := h1
    by_cases hu : k = .un
    · subst hu
      obtain ⟨F, rx⟩ := s1.rx (fun e => by cases e)
      cases rx with
      | lst ha ra =>
        exact ⟨_, _, rfl, SqL.of ha, fun p hp => q _ _ ρ1 .un _ ok1 (s1.remake (M := [⟨.ref _, .un, .list ds⟩]) hp fun F e => by
            cases e with
            | un r e2 =>
              cases e2
              cases r with
              | lst hl ra2 =>
                rw [ha] at hl
                cases hl
                obtain ⟨F', r', p'⟩ := rxAll_rev ra2
                exact ⟨F', .lst upd_same (r'.same (same_upd hp)), fun q hq => by simp [p'.subset hq], fun nd => p'.nodup_iff.mpr (by simpa [Frm0] using (List.nodup_cons.mp nd).2)⟩) h1⟩
    · have f : flats ds = true := by cases k <;> first | exact absurd rfl hu | exact hk
      cases dv with
      | lst hs ha => exact ⟨_, _, rfl, hs, fun p hp => q _ _ ρ1 .un _ ok1 (s1.drop.newUn (rxAll_rev0 (dpAll_flat ha f)) hp) h1⟩
  · exact h1.elim
end
end PL
namespace PL
open PySem PySem.Spec L2
open PyProof.Rows (itemOrd lex_irrefl)
/-! ### sorted, of tuples of three whole numbers -/
abbrev Tri := Int × Int × Int
def trD (w : Tri) : PyData := .tuple [.int w.1, .int w.2.1, .int w.2.2]
def triLe (v w : Tri) : Bool := decide (v.1 < w.1 ∨ (v.1 = w.1 ∧ (v.2.1 < w.2.1 ∨ (v.2.1 = w.2.1 ∧ v.2.2 ≤ w.2.2))))
theorem triLt (v w : Tri) : PySem.W.dataLt (trD v) (trD w) = decide (v.1 < w.1 ∨ (v.1 = w.1 ∧ (v.2.1 < w.2.1 ∨ (v.2.1 = w.2.1 ∧ v.2.2 < w.2.2)))) := by
  obtain ⟨x, y, z⟩ := v
  obtain ⟨x', y', z'⟩ := w
  unfold trD
  simp only
  rw [PySem.W.dataLt_tuple, PySem.W.dataLt_cons (by simp [PySem.W.alike]), PySem.W.dataLt_cons (by simp [PySem.W.alike]), PySem.W.dataLt_cons (by simp [PySem.W.alike])]
  have e : PyProof.Rows.lexLt itemOrd (PySem.W.keyToksAll []) (PySem.W.keyToksAll []) = false := lex_irrefl _
  rw [e, PySem.W.dataLt_int, PySem.W.dataLt_int, PySem.W.dataLt_int]
  simp only [PyData.eqv, beq_iff_eq]
  by_cases h1 : x = x' <;> by_cases h2 : y = y' <;> by_cases h3 : z = z' <;> simp [h1, h2, h3]
theorem dataLe_tri : PySem.W.dataLe false trD = triLe := by
  funext p q
  show (!PySem.W.dataLt (trD q) (trD p)) = _
  rw [triLt]
  unfold triLe
  rw [← decide_not]
  refine decide_eq_decide.mpr ?_
  omega
theorem flats_tri : ∀ l : List Tri, flats (l.map trD) = true
  | [] => rfl
  | _ :: l => by
    rw [List.map_cons, flats, flats_tri l]
    rfl
def rSortT (K : PySem.W.Frag) : List V → Hp → VK → Prop := fun vs H Q => ∃ (a : Addr) (xs : List V) (l : List Tri), vs = [V.ref a] ∧ SqL K H a xs ∧ DpAll K H xs (l.map trD) ∧
  ∀ ys p, DpAll K H ys ((l.mergeSort triLe).map trD) → H p = none → Q (.ref p) (upd H p (.lst ys))
theorem tri_each {K : PySem.W.Frag} {H : Hp} : ∀ {xs : List V} {us : List Value} {l : List Tri}, DpAll K H xs (l.map trD) → Vals xs us → PySem.W.EachIs (fun u b => ∃ x, Dp K H x (trD b) ∧ RelV x u) us l
  | [], [], [], _, _ => .nil
  | x :: xs, u :: us, b :: l, d, r => by
    cases d with
    | cons d1 d2 =>
      cases r with
      | cons r1 r2 => exact .cons ⟨x, d1, r1⟩ (tri_each d2 r2)
  | [], [], _ :: _, d, _ => nomatch d
  | _ :: _, _ :: _, [], d, _ => nomatch d
  | [], _ :: _, _, _, r => nomatch r
  | _ :: _, [], _, _, r => nomatch r
theorem each_tri {K : PySem.W.Frag} {H : Hp} : ∀ {us : List Value} {l : List Tri}, PySem.W.EachIs (fun u b => ∃ x, Dp K H x (trD b) ∧ RelV x u) us l → ∃ ys, DpAll K H ys (l.map trD) ∧ Vals ys us
  | [], [], _ => ⟨[], .nil, .nil⟩
  | u :: us, b :: l, e => by
    cases e with
    | cons e1 e2 =>
      obtain ⟨x, d, r⟩ := e1
      obtain ⟨ys, ds, rs⟩ := each_tri e2
      exact ⟨x :: ys, .cons d ds, .cons r rs⟩
  | [], _ :: _, e => nomatch e
  | _ :: _, [], e => nomatch e
theorem vals_len : ∀ {xs : List V} {us : List Value}, Vals xs us → xs.length = us.length
  | _, _, .nil => rfl
  | _, _, .cons _ r => by rw [List.length_cons, List.length_cons, vals_len r]
theorem cr_sortT {X : Cx} (hu : X.A.units + 65 < cLine) : CallR X (.builtin "sorted") (rSortT X.K) := by
  intro pins s σ H vs us Q I r h
  obtain ⟨a, xs, l, rfl, hs, hd, q⟩ := h
  obtain ⟨its, rv, hl, hz⟩ := I.list hs
  rw [Vals.ref1 r]
  have ea := tri_each hd rv
  have hn : xs.length = l.length := by rw [dpAll_len hd, List.length_map]
  refine PySem.W.sorted_data (enc := trD) hl.isList ea (ea.mono fun v b ⟨x, dx, rx⟩ => L2.Dp.reads I _ _ _ (dx.kit (by rfl)) rx) (PySem.W.AllAlike.of fun _ _ => by simp [PySem.W.alike, PySem.W.alikeAll, trD]) (PySem.W.Sortable.tuples fun _ => ⟨_, _, rfl⟩) (by omega) (fun b _ => ?_) fun out ho eo => ?_
  · have : (trD b).depth = 1 := by simp [trD, PyData.depth, PyData.depthAll]
    omega
  · rw [dataLe_tri] at eo
    obtain ⟨ys, dy, ry⟩ := each_tri eo
    obtain ⟨ep, he'⟩ := PyProof.Rows.sortedAll_at s.heap its out.toArray
    exact ⟨.ref _, upd H (s.heap.objs.size + 1) (.lst ys), I.laid (t' := s.toks) (fun _ _ => PyProof.Rows.sortedAll_old) (Nat.le_succ _) ⟨by rw [vals_len ry]; omega, out, ep, ry, by simpa using he'⟩, rfl, q ys _ dy (I.hok.fresh (Nat.le_succ _))⟩
def cSort : WC := fun ds Q => match ds with
  | [(_, .list xs)] => ∃ l : List Tri, xs = l.map trD ∧ Q .un (.list ((l.mergeSort triLe).map trD))
  | _ => False
theorem lift_sort {K : PySem.W.Frag} : LiftC K (rSortT K) cSort := by
  intro G H L vs ds cs Q Qp hc s hw q
  unfold cSort at hw
  split at hw
  · cases hc with
    | cons hc =>
      cases hc
      obtain ⟨l, rfl, hw⟩ := hw
      have dv := s.dp
      cases dv with
      | lst hs ha =>
        exact ⟨_, _, l, rfl, hs, ha, fun ys p dy hl => q _ _ .un _ (s.drop.newUn (dpAll_flat dy (flats_tri _)) hl) hw⟩
  · exact hw.elim
end PL
namespace PL
open PySem PySem.Spec L2

/-! ### objects: attributes -/
theorem str_inj : ∀ {xs ys : List Str}, xs.map PyData.str = ys.map PyData.str → xs = ys
  | [], [], _ => rfl
  | [], _ :: _, h => by cases h
  | _ :: _, [], h => by cases h
  | x :: xs, y :: ys, h => by
    rw [List.map_cons, List.map_cons] at h
    injection h with h1 h2
    injection h1 with h1
    rw [h1, str_inj h2]
theorem dp_ob {K : PySem.W.Frag} {H : Hp} {v : V} {c : ClD} {ds : List PyData} (h : Dp K H v (obD c ds)) : ∃ a C dx fs, v = .ref a ∧ H a = some (.ins C dx fs) ∧ fs.map (·.1) = c.ns.take fs.length ∧ ObC K c.nm c.ns C ∧ DpAll K H (fs.map (·.2)) ds := by
  unfold obD at h
  generalize e : c.ns.map PyData.str = n at h
  cases h with
  | ob hs oc hq ha =>
    have e := str_inj e
    subst e
    exact ⟨_, _, _, _, rfl, hs, hq, oc, ha⟩
theorem rx_ob {K : PySem.W.Frag} {H : Hp} {v : V} {c : ClD} {ds : List PyData} {F : List Addr} (h : Rx K H v (obD c ds) F) : ∃ a C dx fs F', v = .ref a ∧ H a = some (.ins C dx fs) ∧ fs.map (·.1) = c.ns.take fs.length ∧ ObC K c.nm c.ns C ∧ F = a :: F' ∧ RxAll K H (fs.map (·.2)) ds F' := by
  unfold obD at h
  generalize e : c.ns.map PyData.str = n at h
  cases h with
  | ob hs oc hq ha =>
    have e := str_inj e
    subst e
    exact ⟨_, _, _, _, _, rfl, hs, hq, oc, rfl, ha⟩
theorem ob_inj {c : ClD} {ds es : List PyData} (h : obD c ds = obD c es) : ds = es := by
  unfold obD at h
  injection h with h
  injection h with h1 h2
  injection h1 with h3 h4
  injection h4
theorem lookup_at : ∀ {fs : List (Str × V)} {n : Nat} {f : Str} {u : V}, (fs.map (·.1)).Nodup → (fs.map (·.1))[n]? = some f → (fs.map (·.2))[n]? = some u → fs.lookup f = some u
  | [], _, _, _, _, h, _ => by simp at h
  | (g, x) :: r, 0, f, u, nd, h, hu => by
    simp only [List.map_cons, List.getElem?_cons_zero, Option.some.injEq] at h hu
    subst h hu
    simp [List.lookup]
  | (g, x) :: r, n + 1, f, u, nd, h, hu => by
    simp only [List.map_cons, List.getElem?_cons_succ] at h hu
    rw [List.map_cons, List.nodup_cons] at nd
    have hm : f ∈ r.map (·.1) := List.mem_of_getElem? h
    have : (f == g) = false := by
      apply beq_eq_false_iff_ne.mpr
      rintro rfl
      exact nd.1 hm
    rw [List.lookup_cons, this]
    exact lookup_at nd.2 h hu
theorem lookup_no : ∀ {fs : List (Str × V)} {f : Str}, f ∉ fs.map (·.1) → fs.lookup f = none
  | [], _, _ => rfl
  | (g, x) :: r, f, h => by
    rw [List.map_cons, List.mem_cons, not_or] at h
    have : (f == g) = false := beq_eq_false_iff_ne.mpr h.1
    rw [List.lookup_cons, this]
    exact lookup_no h.2
/-- (t keeps simp from going into K) -/
def wObA (c : ClD) (d : PyData) (n : Nat) (K : PyData → Prop) (_ : Tg K) : Prop := ∃ ds x, d = obD c ds ∧ ds[n]? = some x ∧ K x
/-- x.f, f the n-th attribute -/
def wAtt (c : ClD) (n i : Nat) : WE := fun ρ Q => match ρ[i]? with
  | some (some (k, d)) => wObA c d n (fun x => Q ρ (kp (kv k d) x) x) .mk
  | _ => False
/-- a part of a thing that is not one's own -/
theorem St0.itemO {K : PySem.W.Frag} {H : Hp} {G : Gh} {L : List Cel} {v : V} {k : Kd} {c : ClD} {ds : List PyData} {n : Nat} {d : PyData} (s : St0 K H G (⟨v, k, obD c ds⟩ :: L)) (hk : k = .fr ∨ k = .br ∨ k = .ro) (e : ds[n]? = some d) :
    ∃ a C dx fs u, v = .ref a ∧ H a = some (.ins C dx fs) ∧ fs.map (·.1) = c.ns.take fs.length ∧ ObC K c.nm c.ns C ∧ (fs.map (·.2))[n]? = some u ∧ St0 K H G (⟨u, PL.kp k d, d⟩ :: L) := by
  suffices h : ∃ a C dx fs u, v = .ref a ∧ H a = some (.ins C dx fs) ∧ fs.map (·.1) = c.ns.take fs.length ∧ ObC K c.nm c.ns C ∧ (fs.map (·.2))[n]? = some u ∧ St0 K H G (⟨u, k, d⟩ :: L) by
    obtain ⟨a, C, dx, fs, u, h1, h2, h3, h4, h5, h6⟩ := h
    exact ⟨a, C, dx, fs, u, h1, h2, h3, h4, h5, h6.kp⟩
  obtain ⟨E, s⟩ := s
  have z := s.sn _ List.mem_cons_self
  rcases hk with rfl | rfl | rfl
  · have ex : Excl K H G.f L E := by cases s.ex with | fr q => exact q
    obtain ⟨F, z⟩ := z
    obtain ⟨a, C, dx, fs, F', rfl, h1, h2, h3, _, h4⟩ := rx_ob z
    obtain ⟨u, F2, hu, ru, _⟩ := rxAll_get h4 e
    refine ⟨a, C, dx, fs, u, rfl, hide_same _ _ h1, h2, h3, hu, E, .fr ex, s.nd, s.nw, s.sm, s.gr, fun c hc => ?_⟩
    rcases List.mem_cons.mp hc with rfl | hc
    · exact ⟨F2, ru⟩
    · exact s.sn c (List.mem_cons_of_mem _ hc)
  · have ex : Excl K H G.f L E := by cases s.ex with | br q => exact q
    obtain ⟨F, z⟩ := z
    obtain ⟨a, C, dx, fs, F', rfl, h1, h2, h3, _, h4⟩ := rx_ob z
    obtain ⟨u, F2, hu, ru, _⟩ := rxAll_get h4 e
    refine ⟨a, C, dx, fs, u, rfl, h1, h2, h3, hu, E, .br ex, s.nd, s.nw, s.sm, s.gr, fun c hc => ?_⟩
    rcases List.mem_cons.mp hc with rfl | hc
    · exact ⟨F2, ru⟩
    · exact s.sn c (List.mem_cons_of_mem _ hc)
  · have ex : Excl K H G.f L E := by cases s.ex with | ro q => exact q
    obtain ⟨a, C, dx, fs, rfl, h1, h2, h3, h4⟩ := dp_ob (show Dp K (hide H E) v (obD c ds) from z)
    obtain ⟨u, hu, ru⟩ := dpAll_get h4 e
    refine ⟨a, C, dx, fs, u, rfl, hide_same _ _ h1, h2, h3, hu, E, .ro ex, s.nd, s.nw, s.sm, s.gr, fun c hc => ?_⟩
    rcases List.mem_cons.mp hc with rfl | hc
    · exact ru
    · exact s.sn c (List.mem_cons_of_mem _ hc)
theorem kv_obk {k : Kd} {c : ClD} {ds : List PyData} (h : stK k = true) (n : k ≠ .rt) : kv k (obD c ds) = .fr ∨ kv k (obD c ds) = .br ∨ kv k (obD c ds) = .ro := by
  cases k <;> first | exact .inl rfl | exact .inr (.inl rfl) | exact .inr (.inr rfl)
theorem lift_att {K : PySem.W.Frag} {c : ClD} {n i : Nat} {f : Str} (nd : c.ns.Nodup) (hf : c.ns[n]? = some f) : LiftE K (tFld K (tVar i) f) (wAtt c n i) := by
  intro G H σ ρ L Q Qp ok s h q
  unfold wAtt at h
  split at h
  · rename_i k d e
    obtain ⟨ds, x, rfl, hx, h⟩ := h
    obtain ⟨v, e1, p1, ok2, g⟩ := ok.slot e
    have s1 := (s.perm (p1.append_right L)).look
    have hk : kv k (obD c ds) = .fr ∨ kv k (obD c ds) = .br ∨ kv k (obD c ds) = .ro := by
      cases k <;> first | exact .inl rfl | exact .inr (.inl rfl) | exact .inr (.inr rfl)
    obtain ⟨a, C, dx, fs, u, rfl, h1, h2, h3, h4, h5⟩ := s1.itemO hk hx
    refine ⟨_, e1, a, C, dx, fs, u, rfl, h1, h3.cl, h3.na f (List.mem_of_getElem? hf), lookup_at (by rw [h2]; exact (List.take_sublist _ _).nodup nd) (by rw [h2, List.getElem?_take, if_pos (by have := (List.getElem?_eq_some_iff.mp h4).1; simpa using this)]; exact hf) h4, ?_⟩
    exact q u H ρ _ x ok (h5.perm ((p1.symm.append_right L).cons _)) h
  · exact h.elim

/-! ### .. methods -/
def tMethX (K : PySem.W.Frag) (cn m : Str) (sp : Sp) (ta : TE) (t : TA) : TE := fun σ H Q => ∀ C, PySem.W.nsIn K mainGlobals cn = some (some (.ref C)) → tMeth C m sp [] E0 ta t σ H Q
theorem ns_inj {K : PySem.W.Frag} {x : Str} {C C' : Addr} (h : PySem.W.nsIn K mainGlobals x = some (some (.ref C))) (h' : PySem.W.nsIn K mainGlobals x = some (some (.ref C'))) : C = C' := by
  rw [h] at h'
  injection h' with h'
  injection h' with h'
  injection h'
theorem pe_methX {X : Cx} {e : Expr} {ta : TE} {t : TA} {cn m : Str} {sp : Sp} {C : Addr} (hC : PySem.W.nsIn X.K mainGlobals cn = some (some (.ref C))) (h : PE X e (tMeth C m sp [] E0 ta t)) : PE X e (tMethX X.K cn m sp ta t) := ⟨fun pins s σ H Q I q => h.run pins s σ H Q I (q C hC)⟩
/-- a method that may be called -/
structure CalT (P : Program) (w : World) (K : PySem.W.Frag) (mg : Str → Option Value) (base : Heap) (k : Nat) (c : ClD) (m : Str) (n : Nat) (wf : WF) : Prop where
  ex : ∃ C, PySem.W.nsIn K mainGlobals c.nm = some (some (.ref C)) ∧ C8.Met P w K mg base k C m (spP K n wf) []
def isObC (c : ClD) (d : PyData) : Prop := ∃ ds, d = obD c ds
def wMeth (c : ClD) (n : Nat) (wf : WF) (wo : WE) (was : WA) : WE := fun ρ Q => wo ρ fun ρ1 k d => isObC c d ∧ was ρ1 fun ρ2 ds => ds.length + 1 = n ∧ wf (ak (k, d) :: ds.map ak) fun r => Q ρ2 .un r
theorem lift_meth {K : PySem.W.Frag} {c : ClD} {m : Str} {n : Nat} {wf : WF} {to : TE} {wo : WE} {t : TA} {was : WA} (nm : m ∉ c.ns) (lo : LiftE K to wo) (l : LiftA K t was) : LiftE K (tMethX K c.nm m (spP K n wf) to t) (wMeth c n wf wo was) := by
  intro G H σ ρ L Q Qp ok s h q C0 hC0
  refine lo G H σ ρ L _ _ ok s h fun v H1 ρ1 k d ok1 s1 h1 => ?_
  obtain ⟨⟨es, rfl⟩, h1⟩ := h1
  obtain ⟨a, C, dx, fs, rfl, a1, a2, a3, a4⟩ := dp_ob s1.dp
  cases ns_inj a3.at_ hC0
  refine ⟨a, dx, fs, rfl, a1, lookup_no (by rw [a2]; exact fun z => nm (List.mem_of_mem_take z)), ?_⟩
  refine l G H1 σ ρ1 (⟨.ref a, k, obD c es⟩ :: L) _ _ ok1 (s1.perm List.perm_middle.symm) h1 fun vs H2 ρ2 ds cs ok2 hc s2 h2 => ?_
  have s3 : St0 K H2 G ((⟨.ref a, k, obD c es⟩ :: cs) ++ (lv σ ρ2 ++ L)) := by
    refine s2.perm ?_
    refine (List.Perm.append_left cs List.perm_middle).trans ?_
    exact List.perm_middle
  refine ⟨(k, obD c es) :: ds |>.map ak, _, by rw [List.append_nil]; exact argsOk_of (.cons hc) s3, by rw [List.length_map, List.length_cons]; exact h2.1, h2.2, fun v H3 d F sm r nd nw hq => ?_⟩
  exact q v H3 ρ2 .un d ok2 (s3.drops.fresh sm r nd nw) hq
/-! ### .. new ones -/
def tMakeX (K : PySem.W.Frag) (c : ClD) (sp : Sp) (t : TA) : TE := fun σ H Q => ∀ C, ObC K c.nm c.ns C → tMake C sp [] E0 t σ H Q
theorem pe_makeX {X : Cx} {e : Expr} {t : TA} {c : ClD} {sp : Sp} {C : Addr} (hC : ObC X.K c.nm c.ns C) (h : PE X e (tMake C sp [] E0 t)) : PE X e (tMakeX X.K c sp t) := ⟨fun pins s σ H Q I q => h.run pins s σ H Q I (q C hC)⟩
/-! ### list(x), tuple(x): a copy, its parts shared -/
def wCpr (t : Bool) (i : Nat) : WE := fun ρ Q => match ρ[i]? with
  | some (some (.rt, .list ds)) => Q ρ .fr (if t then .tuple ds else .list ds)
  | some (some (.un, .list ds)) => flats ds = true ∧ Q ρ .un (if t then .tuple ds else .list ds)
  | _ => False
theorem St0.rtParts {K : PySem.W.Frag} {H : Hp} {G : Gh} {L : List Cel} {v : V} {ds : List PyData} (s : St0 K H G (⟨v, .rt, .list ds⟩ :: L)) :
    ∃ a vs F E, v = .ref a ∧ H a = some (.lst vs) ∧ RxAll K (hide H E) vs ds F ∧ Sta K H G (⟨v, .rt, .list ds⟩ :: L) E := by
  obtain ⟨E, s⟩ := s
  obtain ⟨a, vs, es, F, h1, h2, h3, h4⟩ := s.sn _ List.mem_cons_self
  cases h2
  exact ⟨a, vs, F, E, h1, h3, h4, s⟩
theorem lift_cpr {K : PySem.W.Frag} (t : Bool) (i : Nat) {r : List V → Hp → VK → Prop}
    (hr : ∀ p ys H (Q : VK), SqL K H p ys → (∀ l, H l = none → Q (.ref l) (upd H l (if t then .tup ys else .lst ys))) → r [.ref p] H Q) : LiftE K (tCB r (tCons (tVar i) tNil)) (wCpr t i) := by
  intro G H σ ρ L Q Qp ok s h q
  unfold wCpr at h
  split at h
  · rename_i ds e
    obtain ⟨v, e1, p1, ok2, g⟩ := ok.slot e
    obtain ⟨a, vs, F, E, rfl, h1, h2, st⟩ := (s.perm (p1.append_right L)).rtParts
    refine ⟨_, e1, hr a vs H _ (SqL.of h1) fun l hl => ?_⟩
    have pE : l ∉ E := fun z => by
      obtain ⟨_, e, _⟩ := st.ex.mem l z
      rw [hl] at e; cases e
    cases t with
    | false =>
      have s2 := St0.newFr st h2 hl
      exact q _ _ ρ .fr _ ok (s2.perm ((p1.symm.append_right L).cons _)) h
    | true =>
      have sm' : Same H (upd H l (.tup vs)) := same_upd hl
      have s2 : St0 K (upd H l (.tup vs)) G (⟨.ref l, .fr, .tuple ds⟩ :: ⟨.ref a, .rt, .list ds⟩ :: (lv σ (ρ.set i none) ++ L)) := by
        refine ⟨E, .fr (st.ex.same sm'), st.nd, st.nw, st.sm.trans (hide_ext sm'), st.gr.trans sm', fun c hc => ?_⟩
        rcases List.mem_cons.mp hc with rfl | hc
        · exact ⟨_, .tup (SqT.of (by rw [hide_of pE]; exact upd_same)) (h2.same (hide_ext sm'))⟩
        · exact (st.sn c hc).ext sm'
      exact q _ _ ρ .fr _ ok (s2.perm ((p1.symm.append_right L).cons _)) h
  · rename_i ds e
    obtain ⟨f, h⟩ := h
    obtain ⟨v, e1, p1, ok2, g⟩ := ok.slot e
    have s1 : St0 K H G (⟨v, .un, .list ds⟩ :: (lv σ (ρ.set i none) ++ L)) := s.perm (p1.append_right L)
    have dv := s1.dp
    cases dv with
    | @lst a xs _ hs ha =>
      refine ⟨_, e1, hr a xs H _ hs fun l hl => ?_⟩
      cases t with
      | false => exact q _ _ ρ .un _ ok (s.newUn (dpAll_flat ha f) hl) h
      | true => exact q _ _ ρ .un _ ok (s.fresh (F := []) (same_upd hl) (.tup (SqT.of upd_same) ((dpAll_flat ha f).same (same_upd hl))) .nil (by simp)) h
  · exact h.elim

/-! ### things of one's own are handed to a def -/
def mvOk (s : Sl) : Bool := match s with
  | (.un, _) => true
  | (.fr, _) => true
  | (.ro, _) => true
  | (.br, d) => flat d
  | (.rt, _) => false
  | (.io, d) => flat d
def mvS (s : Sl) : Sl := match s with
  | (.br, d) => (.un, d)
  | (.io, d) => (.un, d)
  | s => s
def ioC (io : Option Nat) (v : V) (d : PyData) : List Cel := match io with
  | none => []
  | some _ => [⟨v, .io, d⟩]
def ioD (io : Option Nat) (d d0 : PyData) : PyData := match io with
  | none => d
  | some _ => .tuple [d, d0]
/-- a def that is handed things of one's own; io: the place of the one that it changes for its caller (told as the pair of what it hands back and what that thing is then) -/
def spM (K : PySem.W.Frag) (io : Option Nat) (n : Nat) (wf : WF) : Sp := fun vs H Q _ => ∃ (X : Frm) (E : List Addr) (ds : List Sl) (cs : List Cel) (Qp : PyData → Prop), Cels vs ds cs ∧ ds.length = n ∧ X.h = H ∧ Excl K H X cs E ∧ E.Nodup ∧ (∀ c ∈ cs, Seen K H E c) ∧ wf ds Qp ∧
  ∀ v H' d d0 E', Sta K H' ⟨hide H E, Hp0, X⟩ (⟨v, .un, d⟩ :: ioC io X.v d0) E' → Qp (ioD io d d0) → Q v H'
structure CalM (P : Program) (w : World) (K : PySem.W.Frag) (mg : Str → Option Value) (base : Heap) (k : Nat) (io : Option Nat) (x : Str) (n : Nat) (wf : WF) : Prop where
  ex : ∃ (f : Addr) (fd : FuncData) (ps : List Str), FnOk P w K mg base CX0 k f fd ps (spM K io n wf) ∧ mg x = some (.ref f) ∧ PySem.W.keepIn K (.ref f) = true ∧ Binds K fd ps []
section
variable {K : PySem.W.Frag} {H H' : Hp} {E E0 : List Addr}
mutual
theorem rx_keep (hE : ∀ p ∈ E, ∃ o, H p = some o ∧ ownO o = true) (sm : Same (hide H E) H') : ∀ {v : V} {d : PyData} {F : List Addr}, Rx K H v d F → (∀ p ∈ F, ∃ o, H p = some o ∧ H' p = some o ∧ ownO o = true) → Rx K H' v d F
  | _, _, _, .non, _ => .non
  | _, _, _, .bl b, _ => .bl b
  | _, _, _, .int i, _ => .int i
  | _, _, _, .str x, _ => .str x
  | _, _, _, .lst h r, n => .lst (by
      obtain ⟨xs, h1, h2, _⟩ := n _ List.mem_cons_self
      rw [h] at h1
      cases h1
      exact h2) (rxAll_keep hE sm r fun p hp => n p (List.mem_cons_of_mem _ hp))
  | _, _, _, .tup h r, n => .tup (sqT_same sm (sqT_hide hE h)) (rxAll_keep hE sm r n)
  | _, _, _, .ob h c q r, n => .ob (by
      obtain ⟨xs, h1, h2, _⟩ := n _ List.mem_cons_self
      rw [h] at h1
      cases h1
      exact h2) c q (rxAll_keep hE sm r fun p hp => n p (List.mem_cons_of_mem _ hp))
  | _, _, _, .ex h c, _ => .ex (sm _ _ (by
      rw [hide_of]
      · exact h
      · intro z
        obtain ⟨_, e, w⟩ := hE _ z
        rw [h] at e; cases e; cases w)) c
theorem rxAll_keep (hE : ∀ p ∈ E, ∃ o, H p = some o ∧ ownO o = true) (sm : Same (hide H E) H') : ∀ {vs : List V} {ds : List PyData} {F : List Addr}, RxAll K H vs ds F → (∀ p ∈ F, ∃ o, H p = some o ∧ H' p = some o ∧ ownO o = true) → RxAll K H' vs ds F
  | _, _, _, .nil, _ => .nil
  | _, _, _, .cons r s, n => .cons (rx_keep hE sm r fun p hp => n p (List.mem_append_left _ hp)) (rxAll_keep hE sm s fun p hp => n p (List.mem_append_right _ hp))
end
theorem excl_keep {X : Frm} (hE : ∀ p ∈ E, ∃ o, H p = some o ∧ ownO o = true) (sm : Same (hide H E) H') : ∀ {L : List Cel} {E0 : List Addr}, Excl K H X L E0 → (∀ p ∈ E0, ∃ o, H p = some o ∧ H' p = some o ∧ ownO o = true) → Excl K H' X L E0
  | _, _, .nil q, n => .nil fun p hp => by
    obtain ⟨xs, a, b, w⟩ := q p hp
    obtain ⟨ys, c, d, _⟩ := n p hp
    rw [b] at c
    cases c
    exact ⟨xs, a, d, w⟩
  | _, _, .un r s, n => .un (rx_keep hE sm r fun p hp => n p (List.mem_append_left _ hp)) (excl_keep hE sm s fun p hp => n p (List.mem_append_right _ hp))
  | _, _, .fr s, n => .fr (excl_keep hE sm s n)
  | _, _, .br s, n => .br (excl_keep hE sm s n)
  | _, _, .ro s, n => .ro (excl_keep hE sm s n)
  | _, _, .rt h s, n => by
    obtain ⟨xs, a, b, _⟩ := n _ List.mem_cons_self
    rw [h] at a
    cases a
    exact .rt b (excl_keep hE sm s fun p hp => n p (List.mem_cons_of_mem _ hp))
  | _, _, .io q r s, n => .io q (rx_keep hE sm r fun p hp => n p (List.mem_append_left _ hp)) (excl_keep hE sm s fun p hp => n p (List.mem_append_right _ hp))
/-- the frame of a part -/
theorem excl_re {h : Hp} {v : V} {X : Frm} (hx : ∀ p ∈ X.x, ∃ o, X.h p = some o ∧ H p = some o ∧ ownO o = true) : ∀ {L : List Cel} {F : List Addr}, Excl K H ⟨[], h, v⟩ L F → (∀ c ∈ L, c.k = .io → v = X.v) → Excl K H X L (F ++ X.x)
  | _, _, .nil _, _ => .nil hx
  | _, _, .un r s, n => by rw [List.append_assoc]; exact .un r (excl_re hx s fun c hc => n c (List.mem_cons_of_mem _ hc))
  | _, _, .fr s, n => .fr (excl_re hx s fun c hc => n c (List.mem_cons_of_mem _ hc))
  | _, _, .br s, n => .br (excl_re hx s fun c hc => n c (List.mem_cons_of_mem _ hc))
  | _, _, .ro s, n => .ro (excl_re hx s fun c hc => n c (List.mem_cons_of_mem _ hc))
  | _, _, .rt q s, n => .rt q (excl_re hx s fun c hc => n c (List.mem_cons_of_mem _ hc))
  | _, _, .io q r s, n => by
    rw [List.append_assoc]
    exact .io (q.trans (n _ List.mem_cons_self rfl)) r (excl_re hx s fun c hc => n c (List.mem_cons_of_mem _ hc))
theorem excl_ur {h : Hp} {v : V} {X : Frm} : ∀ {L : List Cel} {F : List Addr}, Excl K H X L F → NoIo L → ∃ F', F = F' ++ X.x ∧ Excl K H ⟨[], h, v⟩ L F'
  | _, _, .nil _, _ => ⟨[], rfl, .nil fun p hp => (nomatch hp)⟩
  | _, _, .un r s, n => by
    obtain ⟨F', e, x⟩ := excl_ur s fun c hc => n c (List.mem_cons_of_mem _ hc)
    subst e
    exact ⟨_, (List.append_assoc _ _ _).symm, .un r x⟩
  | _, _, .fr s, n => by obtain ⟨F', e, x⟩ := excl_ur s fun c hc => n c (List.mem_cons_of_mem _ hc); exact ⟨F', e, .fr x⟩
  | _, _, .br s, n => by obtain ⟨F', e, x⟩ := excl_ur s fun c hc => n c (List.mem_cons_of_mem _ hc); exact ⟨F', e, .br x⟩
  | _, _, .ro s, n => by obtain ⟨F', e, x⟩ := excl_ur s fun c hc => n c (List.mem_cons_of_mem _ hc); exact ⟨F', e, .ro x⟩
  | _, _, .rt q s, n => by
    obtain ⟨F', e, x⟩ := excl_ur s fun c hc => n c (List.mem_cons_of_mem _ hc)
    subst e
    exact ⟨_, rfl, .rt q x⟩
  | _, _, .io q r s, n => absurd rfl (n _ List.mem_cons_self)
/-- back from a def that was handed the things M0 -/
theorem St0.backM {G : Gh} {M0 M R : List Cel} {E' : List Addr} {v0 : V} {F : List Addr} (st : Sta K H G (M0 ++ R) (F ++ E0)) (eR : Excl K H G.f R E0) (hb : G.b = Hp0) (nb : NoBr R) (nio : NoIo M) (res : Sta K H' ⟨hide H (F ++ E0), Hp0, ⟨E0, H, v0⟩⟩ M E') : St0 K H' G (M ++ R) := by
  have hE := st.ex.mem
  obtain ⟨F', e, eM⟩ := excl_ur (h := Hp0) (v := G.f.v) res.ex nio
  have e : E' = F' ++ E0 := e
  subst e
  have sm1 : Same (hide H (F ++ E0)) (hide H' (F' ++ E0)) := res.sm
  have sm : Same (hide H (F ++ E0)) H' := sm1.trans hide_same
  have base : ∀ {L : List Cel} {E : List Addr} {X : Frm}, Excl K H' X L E → ∀ p ∈ X.x, ∃ o, X.h p = some o ∧ H' p = some o ∧ ownO o = true := by
    intro L E X h
    induction h with
    | nil q => exact q
    | un _ _ ih => exact ih
    | fr _ ih => exact ih
    | br _ ih => exact ih
    | ro _ ih => exact ih
    | rt _ _ ih => exact ih
    | io _ _ _ ih => exact ih
  have keep : ∀ p ∈ E0, ∃ o, H p = some o ∧ H' p = some o ∧ ownO o = true := base res.ex
  have eR' := excl_keep hE sm eR keep
  refine ⟨F' ++ E0, eM.app eR', res.nd, fun p hp => st.sm.free (res.nw p hp), st.sm.trans sm1, by rw [hb]; exact (fun _ _ q => by cases q), fun c hc => ?_⟩
  rcases List.mem_append.mp hc with hc | hc
  · exact res.sn c hc
  · have z := st.sn c (List.mem_append_right _ hc)
    have nbc := nb c hc
    obtain ⟨v', k', d'⟩ := c
    cases k' with
    | un => trivial
    | fr => obtain ⟨Fz, z⟩ := z; exact ⟨Fz, z.same sm1⟩
    | br => exact absurd rfl nbc
    | ro => exact dp_same sm1 z
    | rt =>
      obtain ⟨a, xs, dz, Fz, h1, h2, h3, h4⟩ := z
      obtain ⟨ys, k1, k2, _⟩ := keep a (rt_mem eR _ hc rfl _ h1)
      rw [h3] at k1
      cases k1
      exact ⟨a, xs, dz, Fz, h1, h2, k2, h4.same sm1⟩
    | io => trivial
end
/-! ### .. by a statement -/
def LiftM (K : PySem.W.Frag) (t : TE) (w : WE) : Prop := ∀ (G : Gh) (H : Hp) (σ : St) (ρ : Rho) (L : List Cel) (Q : VK) (Qp : Rho → Kd → PyData → Prop), G.b = Hp0 → NoBr L → EnvOk σ ρ → St0 K H G (lv σ ρ ++ L) → w ρ Qp →
  (∀ v H' ρ' k d, EnvOk σ ρ' → St0 K H' G (⟨v, k, d⟩ :: (lv σ ρ' ++ L)) → Qp ρ' k d → Q v H') → t σ H Q
theorem mv_args {K : PySem.W.Frag} {H : Hp} {G : Gh} : ∀ {vs : List V} {ds : List Sl} {cs : List Cel}, Cels vs ds cs → ds.all mvOk = true → ∀ {L : List Cel}, St0 K H G (cs ++ L) → ∃ cs', Cels vs (ds.map mvS) cs' ∧ NoBr cs' ∧ NoIo cs' ∧ St0 K H G (cs' ++ L) := by
  intro vs ds cs h
  induction h with
  | nil => intro _ L s; exact ⟨[], .nil, fun _ h => (nomatch h), fun _ h => (nomatch h), s⟩
  | @cons v vs k d ds cs h ih =>
    intro ha L s
    rw [List.all_cons, Bool.and_eq_true] at ha
    have s1 : St0 K H G (⟨v, k, d⟩ :: (cs ++ L)) := s
    have s2 : ∃ k', (k', d) = mvS (k, d) ∧ k' ≠ .br ∧ k' ≠ .io ∧ St0 K H G (⟨v, k', d⟩ :: (cs ++ L)) := by
      cases k with
      | un => exact ⟨.un, rfl, by decide, by decide, s1⟩
      | fr => exact ⟨.fr, rfl, by decide, by decide, s1⟩
      | br => exact ⟨.un, rfl, by decide, by decide, s1.flatUn ha.1⟩
      | ro => exact ⟨.ro, rfl, by decide, by decide, s1⟩
      | rt => exact absurd ha.1 (by show ¬ (false = true); decide)
      | io => exact ⟨.un, rfl, by decide, by decide, s1.flatUn ha.1⟩
    obtain ⟨k', ek, n1, n2, s2⟩ := s2
    obtain ⟨cs', hc', m1, m2, s3⟩ := ih ha.2 (L := ⟨v, k', d⟩ :: L) (s2.perm List.perm_middle.symm)
    refine ⟨⟨v, k', d⟩ :: cs', ?_, fun c hc => ?_, fun c hc => ?_, s3.perm List.perm_middle⟩
    · rw [List.map_cons, ← ek]
      exact .cons hc'
    · rcases List.mem_cons.mp hc with rfl | hc
      · exact n1
      · exact m1 c hc
    · rcases List.mem_cons.mp hc with rfl | hc
      · exact n2
      · exact m2 c hc
def wMvC (n : Nat) (wf : WF) (was : WA) : WE := fun ρ Q => was ρ fun ρ1 ds => ds.length = n ∧ ds.all mvOk = true ∧ wf (ds.map mvS) fun r => Q (drB ρ1) .un r
theorem lift_mvC {K : PySem.W.Frag} {n : Nat} {wf : WF} {t : TA} {was : WA} {E : XK} (l : LiftA K t was) : LiftM K (tCall (spM K none n wf) [] E t) (wMvC n wf was) := by
  intro G H σ ρ L Q Qp hb nb ok s h q
  refine l G H σ ρ L _ _ ok s h fun vs H1 ρ1 ds cs ok1 hc s1 h1 => ?_
  obtain ⟨hn, hm, h1⟩ := h1
  obtain ⟨cs', hc', b1, b2, s2⟩ := mv_args hc hm s1
  have s3 := s2.drB ok1
  have nbR : NoBr (lv σ (drB ρ1) ++ L) := fun c hc => by
    rcases List.mem_append.mp hc with hc | hc
    · exact nb_drB ok1 c hc
    · exact nb c hc
  obtain ⟨Ea, st⟩ := s3
  obtain ⟨F, E0, eM, eR, rfl⟩ := excl_split st.ex
  have mem0 : ∀ p ∈ E0, ∃ o, H1 p = some o ∧ H1 p = some o ∧ ownO o = true := fun p hp => by
    obtain ⟨xs, e, w⟩ := eR.mem p hp
    exact ⟨xs, e, e, w⟩
  refine ⟨⟨E0, H1, .non⟩, F ++ E0, ds.map mvS, cs', _, by rw [List.append_nil]; exact hc', by rw [List.length_map]; exact hn, rfl, excl_re (X := ⟨E0, H1, .non⟩) mem0 eM (fun c hc z => absurd z (b2 c hc)), st.nd, fun c hc => st.sn c (List.mem_append_left _ hc), h1, fun v H2 d d0 E' res hq => ?_⟩
  have s4 := St0.backM (M0 := cs') (M := [⟨v, .un, d⟩]) st eR hb nbR (fun c hc => by
    rcases List.mem_cons.mp hc with rfl | hc
    · intro z; cases z
    · cases hc) res
  exact q v H2 (drB ρ1) .un d (env_drB ok1).1 s4 hq
/-- the slot holds something -/
def hasS (ρ : Rho) (i : Nat) : Prop := match ρ[i]? with
  | some (some _) => True
  | _ => False
def wIoC (i p n : Nat) (wf : WF) (was1 was2 : WA) : WE := fun ρ Q => was1 ρ fun ρ1 ds1 => hasS ρ1 i ∧ was2 ρ1 fun ρ2 ds2 => match ρ2[i]? with
  | some (some (k0, d0)) => ioU k0 = true ∧ ds1.length = p ∧ ds1.length + 1 + ds2.length = n ∧ ds1.all mvOk = true ∧ ds2.all mvOk = true ∧ wf (ds1.map mvS ++ (.io, d0) :: ds2.map mvS) fun r => match r with
    | .tuple [d, d1] => Q ((drB ρ2).set i (some (k0, d1))) .un d
    | _ => False
  | _ => False
theorem cels_app {us ws : List V} {ds es : List Sl} {cs cs' : List Cel} (h : Cels us ds cs) (h' : Cels ws es cs') : Cels (us ++ ws) (ds ++ es) (cs ++ cs') := by
  induction h with
  | nil => exact h'
  | cons _ ih => exact .cons ih
theorem lift_ioC {K : PySem.W.Frag} {i p n : Nat} {wf : WF} {t1 t2 : TA} {was1 was2 : WA} {E : XK} (l1 : LiftA K t1 was1) (l2 : LiftA K t2 was2) :
    LiftM K (tCall (spM K (some p) n wf) [] E (fun σ H Q => t1 σ H fun us H1 => tVar i σ H1 fun v H2 => t2 σ H2 fun ws H3 => Q (us ++ v :: ws) H3)) (wIoC i p n wf was1 was2) := by
  intro G H σ ρ L Q Qp hb nb ok s h q
  refine l1 G H σ ρ L _ _ ok s h fun us H1 ρ1 ds1 cs1 ok1 hc1 s1 h1 => ?_
  obtain ⟨hs, h1⟩ := h1
  have hv : ∃ v, σ[i]? = some (some v) := by
    unfold hasS at hs
    split at hs
    · rename_i sl e
      obtain ⟨k, d⟩ := sl
      obtain ⟨v, e1, _⟩ := ok1.slot e
      exact ⟨v, e1⟩
    · exact hs.elim
  obtain ⟨v, hv⟩ := hv
  refine ⟨v, hv, ?_⟩
  refine l2 G H1 σ ρ1 (cs1 ++ L) _ _ ok1 (s1.perm perm3) h1 fun ws H2 ρ2 ds2 cs2 ok2 hc2 s2 h2 => ?_
  split at h2
  · rename_i k0 d0 e
    obtain ⟨hk, hp, hn, m1, m2, h2⟩ := h2
    have s3 : St0 K H2 G (cs1 ++ (cs2 ++ (lv σ ρ2 ++ L))) := s2.perm ((List.Perm.append_left cs2 perm3).trans perm3)
    obtain ⟨cs1', c1, b1, b2, s4⟩ := mv_args hc1 m1 s3
    obtain ⟨cs2', c2, b3, b4, s5⟩ := mv_args hc2 m2 (L := cs1' ++ (lv σ ρ2 ++ L)) (s4.perm perm3)
    have s6 : St0 K H2 G ((cs1' ++ cs2') ++ (lv σ (drB ρ2) ++ L)) := by
      refine St0.drB ok2 (s5.perm ?_)
      rw [List.append_assoc]
      exact perm3
    obtain ⟨v', e1, p1, ok3, g⟩ := (env_drB ok2).1.slot (dr_get e (ioU_ne hk))
    rw [hv] at e1
    cases e1
    have s7 : St0 K H2 G (⟨v, k0, d0⟩ :: ((cs1' ++ cs2') ++ (lv σ ((drB ρ2).set i none) ++ L))) := by
      refine s6.perm ?_
      refine (List.Perm.append_left _ (p1.append_right L)).trans ?_
      exact List.perm_middle
    obtain ⟨s8, bk⟩ := s7.toUn hk
    have s9 : St0 K H2 G ((cs1' ++ ⟨v, .un, d0⟩ :: cs2') ++ (lv σ ((drB ρ2).set i none) ++ L)) := by
      refine s8.perm ?_
      rw [List.append_assoc, List.append_assoc, List.cons_append]
      exact List.perm_middle.symm
    have nbR : NoBr (lv σ ((drB ρ2).set i none) ++ L) := fun c hc => by
      rcases List.mem_append.mp hc with hc | hc
      · exact nb_drB ok2 c (p1.symm.subset (List.mem_cons_of_mem _ hc))
      · exact nb c hc
    obtain ⟨Ea, st⟩ := s9
    obtain ⟨F, E0, eM, eR, rfl⟩ := excl_split st.ex
    have mem0 : ∀ p ∈ E0, ∃ o, H2 p = some o ∧ H2 p = some o ∧ ownO o = true := fun p hp => by
      obtain ⟨xs, e, w⟩ := eR.mem p hp
      exact ⟨xs, e, e, w⟩
    -- the cell of the thing that is changed
    have toIo : ∀ {A B : List Cel} {X : Frm} {F : List Addr}, X.v = v → Excl K H2 X (A ++ ⟨v, .un, d0⟩ :: B) F → Excl K H2 X (A ++ ⟨v, .io, d0⟩ :: B) F := by
      intro A
      induction A with
      | nil =>
        intro B X F ev h
        cases h with
        | un r e => exact .io ev.symm r e
      | cons c A ih =>
        intro B X F ev h
        cases h with
        | un r e => exact .un r (ih ev e)
        | fr e => exact .fr (ih ev e)
        | br e => exact .br (ih ev e)
        | ro e => exact .ro (ih ev e)
        | rt z e => exact .rt z (ih ev e)
        | io z r e => exact .io z r (ih ev e)
    have nio0 : NoIo (cs1' ++ ⟨v, .un, d0⟩ :: cs2') := fun c hc => by
      rcases List.mem_append.mp hc with hc | hc
      · exact b2 c hc
      · rcases List.mem_cons.mp hc with rfl | hc
        · intro z; cases z
        · exact b4 c hc
    refine ⟨⟨E0, H2, v⟩, F ++ E0, ds1.map mvS ++ (.io, d0) :: ds2.map mvS, cs1' ++ ⟨v, .io, d0⟩ :: cs2', _, by rw [List.append_nil]; exact cels_app c1 (.cons c2), by simp; omega, rfl, toIo rfl (excl_re (X := ⟨E0, H2, v⟩) mem0 eM (fun c hc z => absurd z (nio0 c hc))), st.nd, fun c hc => ?_, h2, fun r H3 d d1 E' res hq => ?_⟩
    · rcases List.mem_append.mp hc with hc | hc
      · exact st.sn c (by simp [hc])
      · rcases List.mem_cons.mp hc with rfl | hc
        · trivial
        · exact st.sn c (by simp [hc])
    · have res2 : Sta K H3 ⟨hide H2 (F ++ E0), Hp0, ⟨E0, H2, v⟩⟩ (⟨r, .un, d⟩ :: [⟨v, .un, d1⟩]) E' := by
        refine ⟨?_, res.nd, res.nw, res.sm, res.gr, fun c hc => ?_⟩
        · cases res.ex with
          | un r1 e =>
            cases e with
            | io z r2 e => exact .un r1 (.un r2 e)
        · rcases List.mem_cons.mp hc with rfl | hc
          · trivial
          · rcases List.mem_cons.mp hc with rfl | hc
            · trivial
            · cases hc
      have s10 := St0.backM (M0 := cs1' ++ ⟨v, .un, d0⟩ :: cs2') (M := [⟨r, .un, d⟩, ⟨v, .un, d1⟩]) st eR hb nbR (fun c hc => by
        rcases List.mem_cons.mp hc with rfl | hc
        · intro z; cases z
        · rcases List.mem_cons.mp hc with rfl | hc
          · intro z; cases z
          · cases hc) res2
      have s11 : St0 K H3 G (⟨v, .un, d1⟩ :: (⟨r, .un, d⟩ :: (lv σ ((drB ρ2).set i none) ++ L))) := s10.perm (.swap _ _ _)
      have s12 : St0 K H3 G (⟨v, k0, d1⟩ :: (⟨r, .un, d⟩ :: (lv σ ((drB ρ2).set i none) ++ L))) := by
        cases k0 with
        | un => exact s11
        | io => exact s11.unIo s7.ioUn.1
        | fr => cases hk
        | br => cases hk
        | ro => cases hk
        | rt => cases hk
      obtain ⟨ok4, p4⟩ := g k0 d1 (ioU_st hk)
      refine q r H3 _ .un d ok4 ?_ hq
      exact (s12.perm (.swap _ _ _)).perm ((p4.append_right L).cons _)
  · exact h2.elim

/-! ### __init__ is handed the new object, which it changes -/
theorem args_same {K : PySem.W.Frag} {H H' : Hp} (e : Same H H') : ∀ {vs : List V} {ds : List Sl}, ArgsOk K H vs ds → ArgsOk K H' vs ds
  | _, _, .nil => .nil
  | _, _, .fr ⟨F, r⟩ h => .fr ⟨F, r.same e⟩ (args_same e h)
  | _, _, .ro d h => .ro (dp_same e d) (args_same e h)
/-- a class that makes things when it is called by its name -/
structure CalK (P : Program) (w : World) (K : PySem.W.Frag) (mg : Str → Option Value) (base : Heap) (k : Nat) (c : ClD) (n : Nat) (wf : WF) : Prop where
  ex : ∃ C, ObC K c.nm c.ns C ∧ C8.Mak P w K mg base k c.nm C (spM K (some 0) (n + 1) wf) []
/-- read only things in a state -/
theorem args_cells {K : PySem.W.Frag} {H : Hp} : ∀ {vs : List V} {ds : List Sl}, ArgsOk K H vs ds → ∃ cs, Cels vs ds cs ∧ (∀ X E, Excl K H X [] E → Excl K H X cs E) ∧ (∀ c ∈ cs, c.k = .fr ∧ (∃ F, Rx K H c.v c.d F) ∨ c.k = .ro ∧ Dp K H c.v c.d)
  | _, _, .nil => ⟨[], .nil, fun _ _ h => h, fun c hc => by cases hc⟩
  | _, _, .fr r h => by
    obtain ⟨cs, h1, h2, h3⟩ := args_cells h
    refine ⟨_, .cons h1, fun X E e => .fr (h2 X E e), fun c hc => ?_⟩
    rcases List.mem_cons.mp hc with rfl | hc
    · exact .inl ⟨rfl, r⟩
    · exact h3 c hc
  | _, _, .ro r h => by
    obtain ⟨cs, h1, h2, h3⟩ := args_cells h
    refine ⟨_, .cons h1, fun X E e => .ro (h2 X E e), fun c hc => ?_⟩
    rcases List.mem_cons.mp hc with rfl | hc
    · exact .inr ⟨rfl, r⟩
    · exact h3 c hc
def wMake (c : ClD) (n : Nat) (wf : WF) (was : WA) : WE := fun ρ Q => was ρ fun ρ1 ds => ds.length = n ∧ wf ((.io, obD c []) :: ds.map ak) fun r => match r with
  | .tuple [.none, d] => Q ρ1 .un d
  | _ => False
theorem lift_make {K : PySem.W.Frag} {c : ClD} {n : Nat} {wf : WF} {t : TA} {was : WA} (l : LiftA K t was) : LiftE K (tMakeX K c (spM K (some 0) (n + 1) wf) t) (wMake c n wf was) := by
  intro G H σ ρ L Q Qp ok s h q C hC
  refine l G H σ ρ L _ _ ok s h fun vs H1 ρ1 ds cs ok1 hc s1 h1 => ?_
  intro x dx hx hdx hne
  have hx1 : upd H1 dx (.own x) x = none := by rw [upd_ne (fun e => hne e.symm)]; exact hx
  have sm : Same H1 (upd (upd H1 dx (.own x)) x (.ins C dx [])) := (same_upd hdx).trans (same_upd hx1)
  have smh : Same H1 (hide (upd (upd H1 dx (.own x)) x (.ins C dx [])) [x]) := fun p o e => by
    have np : p ≠ x := fun z => by rw [z, hx] at e; cases e
    rw [hide_of (by simpa using np)]
    exact sm p o e
  obtain ⟨cs', k1, k2, k3⟩ := args_cells (args_same smh (argsOk_of hc s1))
  have rself : Rx K (upd (upd H1 dx (.own x)) x (.ins C dx [])) (.ref x) (obD c []) [x] := .ob (fs := []) upd_same hC rfl .nil
  have cs2 : ∀ X E, Excl K (upd (upd H1 dx (.own x)) x (.ins C dx [])) X [] E → Excl K (upd (upd H1 dx (.own x)) x (.ins C dx [])) X cs' E := by
    have go : ∀ {us : List V} {es : List Sl} {cs : List Cel}, ArgsOk K (hide (upd (upd H1 dx (.own x)) x (.ins C dx [])) [x]) us es → Cels us es cs → ∀ X E, Excl K (upd (upd H1 dx (.own x)) x (.ins C dx [])) X [] E → Excl K (upd (upd H1 dx (.own x)) x (.ins C dx [])) X cs E := by
      intro us es cs ha
      induction ha generalizing cs with
      | nil => intro hc X E h; cases hc; exact h
      | fr _ _ ih => intro hc X E h; cases hc with | cons hc => exact .fr (ih hc X E h)
      | ro _ _ ih => intro hc X E h; cases hc with | cons hc => exact .ro (ih hc X E h)
    exact go (args_same smh (argsOk_of hc s1)) k1
  refine ⟨⟨[], upd (upd H1 dx (.own x)) x (.ins C dx []), .ref x⟩, [x], (.io, obD c []) :: ds.map ak, ⟨.ref x, .io, obD c []⟩ :: cs', _, by rw [List.append_nil]; exact .cons k1, by simp [h1.1], rfl,
    (Excl.io (F := [x]) (E := []) rfl rself (cs2 _ _ (.nil fun p hp => (nomatch hp)))), by simp, fun c0 hc0 => ?_, h1.2, fun r H2 d d1 E' res hq => ?_⟩
  · rcases List.mem_cons.mp hc0 with rfl | hc0
    · trivial
    · rcases k3 c0 hc0 with ⟨e, r⟩ | ⟨e, r⟩
      · obtain ⟨v', k', d'⟩ := c0
        subst e
        exact r
      · obtain ⟨v', k', d'⟩ := c0
        subst e
        exact r
  · have hq : (match PyData.tuple [d, d1] with
      | .tuple [.none, d] => Qp ρ1 .un d
      | _ => False) := hq
    split at hq
    · rename_i d2 e
      injection e with e
      injection e with e1 e2
      injection e2 with e2 _
      subst e1
      subst e2
      have ex := res.ex
      have nd := res.nd
      have nw := res.nw
      have sm2 : Same H1 H2 := smh.trans (res.sm.trans hide_same)
      cases ex with
      | un r0 ex =>
        cases r0
        cases ex with
        | @io _ _ F1 _ _ z r1 ex =>
          cases ex
          simp only [List.append_nil, List.nil_append] at nd nw
          exact ⟨rfl, q _ H2 ρ1 .un _ ok1 (s1.drops.fresh sm2 r1 nd fun p hp => smh.free (nw p hp)) hq⟩
    · exact hq.elim
end PL
namespace PL
open PySem PySem.Spec L2
theorem and2 {a b : Bool} (h : (a && b) = true) : a = true ∧ b = true := Bool.and_eq_true_iff.mp h
/-! ### facts about an expression's head -/
def lk (sc : Scope) (x : Str) : Option NameKind := sc.names.lookup x
def visB (sc : Scope) (x : Str) : Bool := match lk sc x with
  | some .local => true | some .cell => true | some .free => true | _ => false
def locB (sc : Scope) (x : Str) : Bool := match lk sc x with
  | some .local => true | some .cell => true | _ => false
def gloB (sc : Scope) (x : Str) : Bool := match lk sc x with
  | some .globalImplicit => true | _ => false
def dbgB (x : Str) : Bool := !(x == ("__debug__" : Str)) && !(x == ("__classdict__" : Str)) && !decide (x = ("__name__" : Str))
def starN : Expr → Bool
  | .Starred _ _ => false
  | _ => true
def ixOk : Expr → Bool
  | .Slice _ _ _ _ => false
  | _ => true
def truN : Expr → Bool
  | .UnaryOp .Not _ _ => false
  | .BoolOp _ _ _ => false
  | .IfExp _ _ _ _ => false
  | .Compare _ _ _ _ => false
  | _ => true
def isBop : Expr → Bool
  | .BoolOp _ _ _ => true
  | _ => false
def swN : Expr → Bool
  | .ListComp _ _ _ _ => false
  | .SetComp _ _ _ _ => false
  | .DictComp _ _ _ _ _ => false
  | _ => true
def setN : Expr → Bool
  | .Set _ _ _ => false
  | _ => true
def tupE : Expr → Bool
  | .Tuple _ _ _ => true
  | _ => false
theorem star_of {e : Expr} {es : List Expr} {env : Env} (h : starN e = true) : starEach (e :: es) env = (false, eval e env) :: starEach es env := by
  cases e <;> first | rfl | cases h
theorem ix_of {e : Expr} (h : ixOk e = true) : PlainIx e := by
  intro o i
  cases e <;> first | rfl | cases h
theorem tru_of {e : Expr} {env : Env} (h : truN e = true) : ∀ whole, isTrue e env whole = (do let v ← whole; standAt e.pos; holding [v] (truthy v)) := by
  intro whole
  cases e with
  | UnaryOp op x p => cases op <;> first | rfl | cases h
  | _ => first | rfl | cases h
theorem sw_of {e : Expr} {t : Option Expr} {l : Nat} {env : Env} (h : swN e = true) : swapsWith e t l env = pure false := by
  cases e <;> first | rfl | cases h
theorem set_of {e : Expr} {env : Env} (h : setN e = true) : ∀ x, foldedSetIterable e env x = pure x := by
  intro x
  cases e <;> first | rfl | cases h
def starsN : List Expr → Bool
  | [] => true
  | e :: es => starN e && starsN es
theorem stars_flag {env : Env} : ∀ {es : List Expr}, starsN es = true → (starEach es env).any (·.1) = false
  | [], _ => rfl
  | e :: es, h => by
    rw [star_of (and2 h).1, List.any_cons, stars_flag (and2 h).2]; rfl
theorem stars_plain {es : List Expr} {env : Env} {pos : Pos} (h : starsN es = true) : (backTo pos (starEach es env)).any (·.1) = false := by
  have q := stars_flag (env := env) h
  rw [← q]
  unfold backTo
  rw [List.any_map]
  rfl
def strB (x : Str) (l : List Str) : Bool := l.any fun y => decide (x = y)
theorem strB_mem {x : Str} {l : List Str} (h : strB x l = true) : x ∈ l := by
  obtain ⟨y, h1, h2⟩ := List.any_eq_true.mp h
  rw [of_decide_eq_true h2]; exact h1

theorem stars_all {es : List Expr} {env : Env} {pos : Pos} (h : starsN es = true) : (backTo pos (starEach es env)).all (fun x => !x.1) = true := by
  have q := stars_plain (env := env) (pos := pos) h
  rw [List.all_eq_true]
  intro x hx
  have := List.any_eq_false.mp q x hx
  simpa using this
theorem call_meth {o : Expr} {m : Str} {apos pos : Pos} {args : List Expr} {env : Env} (hb : attributeBase o m env (eval o env) = eval o env) (hs : starsN args = true) (hl : (apos.endLine == pos.line) = true) (hn : args.length < 20) :
    eval (.Call (.Attribute o m apos) args [] pos) env = (do
      let ov ← eval o env
      standAt apos.atName
      let (f, first) ← holding [ov] (getMethod ov m (do return (← importBound o env).getD true))
      callWith pos f first (backTo pos (starEach args env)) (backToKw pos (keywordEach [] env))) := by
  show (do
    let ov ← attributeBase o m env (eval o env)
    standAt apos.atName
    methodCall o m apos pos env ov (args.length + ([] : List Keyword).length) (backTo pos (starEach args env)) (backToKw pos (keywordEach [] env))) = _
  rw [hb]
  have few : methodCallForm (args.length + ([] : List Keyword).length) (backTo pos (starEach args env)) (backToKw pos (keywordEach [] env)) = true := by
    unfold methodCallForm
    rw [stars_all hs]
    simp [keywordEach, backToKw]
    omega
  have e : ∀ ov, methodCall o m apos pos env ov (args.length + ([] : List Keyword).length) (backTo pos (starEach args env)) (backToKw pos (keywordEach [] env)) = (do
      let (f, first) ← holding [ov] (getMethod ov m (do return (← importBound o env).getD true))
      callWith pos f first (backTo pos (starEach args env)) (backToKw pos (keywordEach [] env))) := fun ov => by
    unfold methodCall
    rw [few]
    unfold calleeOf methodCallPos
    rw [hl]
    rfl
  simp only [e]
theorem ff {P : Prop} (h : false = true) : P := absurd h Bool.false_ne_true
/-! ### the matcher -/
structure Mc where
  N : List Str
  bn : List Str
def nmB (m : Mc) (i : Nat) (x : Str) : Bool := decide (m.N[i]? = some x)
def ownOf (m : Mc) (vs : List Nat) : List (Str × Nat) := vs.map fun i => (m.N.getD i "", i)
theorem ownOf_snd (m : Mc) (vs : List Nat) : (ownOf m vs).map (·.2) = vs := by
  unfold ownOf
  rw [List.map_map]
  exact (List.map_congr_left fun _ _ => rfl).trans (List.map_id vs)
def baseO : Expr → Bool
  | .Call (.Name _ _) [] [] _ => false
  | _ => true
theorem base_of {o : Expr} {a : Str} {env : Env} {w : Sem Value} (h : baseO o = true) : attributeBase o a env w = w := by
  unfold attributeBase
  cases o <;> first | rfl | skip
  rename_i f es ks p
  cases f <;> first | rfl | skip
  rcases es with _ | ⟨_, _⟩
  · rcases ks with _ | ⟨_, _⟩
    · cases h
    · rfl
  · rfl
def smA : Nat → Nat
  | 3 => 0
  | _ => 1
def isiN : Nat → Str
  | 0 => "int"
  | 1 => "bool"
  | 2 => "tuple"
  | 3 => "list"
  | _ => "str"
def blB (m : Mc) (sc : Scope) (f x : Str) : Bool := decide (x = f) && strB f m.bn && gloB sc f
def mtCls (sc : Scope) : List Str → List Expr → Bool
  | [], es => match es with
    | [] => true
    | _ => false
  | c :: cs, es => match es with
    | .Name y _ :: r => decide (y = c) && gloB sc c && dbgB c && mtCls sc cs r
    | _ => false
def mtVr (m : Mc) (sc : Scope) (i : Nat) (e : Expr) : Bool := match e with
  | .Name x _ => nmB m i x && visB sc x && dbgB x
  | _ => false
def mtIns (m : Mc) (sc : Scope) (i : Nat) (e : Expr) (k : Expr → Bool) : Bool := match e with
  | .Call (.Name f _) [y, z] [] _ => blB m sc "isinstance" f && mtVr m sc i y && starN z && k z
  | _ => false
/-- what is leaned on: a def, one that hands back what nobody changes, one that is handed things of one's own, one that changes its p-th thing, a method, a class, a text by its name -/
inductive CT where | er (cs : List Str) | eh (hc : List Str) | fn | fz | mv | io (p : Nat) | mt (c : ClD) | mk (c : ClD) | gs (s : Str)
def sub (x c : Str) : Bool := decide (x = c) || (decide (c = "FordError") || decide (c = "ValueError"))
/-! ### the place in which an expression stands -/
structure Cxt (m : Mc) (sc : Scope) (j : Nat) (X : Cx) : Prop where
  n : X.N = m.N
  nd : m.N.Nodup
  calm : X.calm = true
  kn : ∀ x k, sc.names.lookup x = some k → X.env.scope.names.lookup x = some k ∨ (k = .free ∧ X.env.scope.names.lookup x = some .cell)
  fn : ∀ x, sc.names.lookup x = some .cell → X.fn x = true
  room : Room j X.A
  bn : ∀ x ∈ m.bn, X.mg x = none
/-- what is known of a class of errors -/
structure ErrX (K : PySem.W.Frag) (mg : Str → Option Value) (x : Str) (cs : List Str) : Prop where
  ex : ∃ C : Addr, PySem.W.nsIn K mainGlobals x = some (some (.ref C)) ∧ (∀ c ∈ cs, ∃ (v : V) (u : Value), ClsV v u ∧ (mg c = some u ∨ (mg c = none ∧ bootBuiltins c = some u ∧ c ≠ "__name__")) ∧ PySem.W.kitOne K (.ref C) u = some (sub x c))
structure ErrH (K : PySem.W.Frag) (mg : Str → Option Value) (x : Str) (hc : List Str) : Prop where
  ex : ∃ C : Addr, mg x = some (.ref C) ∧ ExAt K x C ∧ ∀ c ∈ hc, ∃ u : Value, mg c = some u ∧ PySem.W.exmOne K (.ref C) u = some (sub x c)
def CalS (P : Program) (w : World) (K : PySem.W.Frag) (mg : Str → Option Value) (base : Heap) (j : Nat) (b : CT) (f : Str) (n : Nat) (wf : WF) : Prop := match b with
  | .er cs => ErrX K mg f cs
  | .eh hc => ErrH K mg f hc
  | .fn => ∃ k, k ≤ j ∧ Cal P w K mg base k f n wf
  | .fz => ∃ k, k ≤ j ∧ CalF P w K mg base k f n wf
  | .mv => ∃ k, k ≤ j ∧ CalM P w K mg base k none f n wf
  | .io p => ∃ k, k ≤ j ∧ CalM P w K mg base k (some p) f n wf
  | .mt c => ∃ k, k ≤ j ∧ CalT P w K mg base k c f n wf
  | .mk c => ∃ k, k + 1 ≤ j ∧ CalK P w K mg base k c n wf
  | .gs s => ∃ u, mg f = some u ∧ RelV (.str s) u
def CalR (j : Nat) (X : Cx) (b : CT) (f : Str) (n : Nat) (wf : WF) : Prop := CalS X.prog X.w X.K X.mg X.base j b f n wf
section
variable {m : Mc} {sc : Scope} {j : Nat} {X : Cx}
theorem Cxt.nm (c : Cxt m sc j X) {i : Nat} {x : Str} (h : nmB m i x = true) : X.N[i]? = some x := by rw [c.n]; exact of_decide_eq_true h
theorem Cxt.vis (c : Cxt m sc j X) {x : Str} (h : visB sc x = true) : Vis X.env.scope x := by
  unfold visB lk at h
  split at h
  · rename_i e; rcases c.kn _ _ e with q | ⟨q, _⟩
    · exact .inl q
    · cases q
  · rename_i e; rcases c.kn _ _ e with q | ⟨q, _⟩
    · exact .inr (.inl q)
    · cases q
  · rename_i e; rcases c.kn _ _ e with q | ⟨_, q⟩
    · exact .inr (.inr q)
    · exact .inr (.inl q)
  · cases h
theorem Cxt.loc (c : Cxt m sc j X) {x : Str} (h : locB sc x = true) : Loc X.env.scope x ∧ (X.fn x = true ∨ X.env.scope.names.lookup x = some .local) := by
  unfold locB lk at h
  split at h
  · rename_i e; rcases c.kn _ _ e with q | ⟨q, _⟩
    · exact ⟨.inl q, .inr q⟩
    · cases q
  · rename_i e; rcases c.kn _ _ e with q | ⟨q, _⟩
    · exact ⟨.inr q, .inl (c.fn _ e)⟩
    · cases q
  · cases h
theorem Cxt.glo (c : Cxt m sc j X) {x : Str} (h : gloB sc x = true) : Gl X x := by
  unfold gloB lk at h
  split at h
  · rename_i e; rcases c.kn _ _ e with q | ⟨q, _⟩
    · exact q
    · cases q
  · cases h
theorem Cxt.bl (c : Cxt m sc j X) {f x : Str} (h : blB m sc f x = true) : x = f ∧ Gl X f ∧ X.mg f = none :=
  ⟨of_decide_eq_true (and2 (and2 h).1).1, c.glo (and2 h).2, c.bn _ (strB_mem (and2 (and2 h).1).2)⟩
theorem dbg1 {x : Str} (h : dbgB x = true) : (x == ("__debug__" : Str)) = false := by
  have h := (and2 (and2 h).1).1
  cases q : (x == ("__debug__" : Str)) with
  | false => rfl
  | true => rw [q] at h; cases h
theorem dbg2 {x : Str} (h : dbgB x = true) : (x == ("__classdict__" : Str)) = false := by
  have h := (and2 (and2 h).1).2
  cases q : (x == ("__classdict__" : Str)) with
  | false => rfl
  | true => rw [q] at h; cases h
theorem not_t {b : Bool} (h : (!b) = true) : b = false := by cases b <;> first | rfl | cases h
theorem lookup_rel {F : Str → NameKind → Bool} : ∀ {names : List (Str × NameKind)} {x : Str} {k : NameKind}, names.lookup x = some k →
    (names.map fun (n, k) => if (k == NameKind.free && F n k) = true then (n, NameKind.cell) else (n, k)).lookup x = some k ∨ (k = .free ∧ (names.map fun (n, k) => if (k == NameKind.free && F n k) = true then (n, NameKind.cell) else (n, k)).lookup x = some .cell)
  | [], _, _, h => by simp at h
  | (n, k0) :: r, x, k, h => by
    rw [List.map_cons]
    dsimp only
    by_cases e : (k0 == NameKind.free && F n k0) = true
    · rw [if_pos e]
      rw [List.lookup_cons] at h ⊢
      cases hx : x == n with
      | true =>
        rw [hx] at h
        have hk : k0 = k := by simpa using h
        subst hk
        have : k0 = .free := by
          have := (and2 e).1
          cases k0 <;> first | rfl | cases this
        exact .inr ⟨this, rfl⟩
      | false => rw [hx] at h; exact lookup_rel h
    · rw [if_neg e]
      rw [List.lookup_cons] at h ⊢
      cases hx : x == n with
      | true => rw [hx] at h; exact .inl h
      | false => rw [hx] at h; exact lookup_rel h
theorem Cxt.blk (c : Cxt m sc j X) {scope : Scope} (s : Shared) (H : Hp) (C : Addr) (cl : List (Str × Addr)) (fp : List Addr) : Cxt m scope j (X.blk s H scope (compEnvC scope cl C X.env) fp) where
  n := c.n
  nd := c.nd
  calm := c.calm
  kn := fun x k h => by
    have q := lookup_rel (F := fun n k => X.env.scope.kind == .function && X.env.kindOf n == some .cell) h
    simp only [← Bool.and_assoc] at q
    exact q
  fn := fun x h => by
    show (scope.names.lookup x == some .cell) = true
    rw [h]; rfl
  room := c.room
  bn := c.bn
theorem Cxt.ok (c : Cxt m sc j X) {scope : Scope} {own : List (Str × Nat)} (h : blkC m.N sc scope own = true) : BlkOk X.N X.env.scope scope own := by
  have b := blkOk_by h
  rw [← c.n] at b
  exact ⟨b.kind, b.uniq, b.ix, fun y hy e => by
    rcases b.free y hy e with q | q
    · rcases c.kn _ _ q with z | ⟨z, _⟩
      · exact .inl z
      · cases z
    · rcases c.kn _ _ q with z | ⟨_, z⟩
      · exact .inr z
      · exact .inl z, b.own⟩
end

structure Cxs (m : Mc) (sc : Scope) (j : Nat) (X : Cx) : Prop extends Cxt m sc j X where
  bk : X.env.blockKind = .function
  own : PassesOwn (model X.prog X.w) X.A X.env X.xe
/-! ### what only weakens -/
def MonE (w : WE) : Prop := ∀ ρ (Q Q' : Rho → Kd → PyData → Prop), (∀ ρ k d, Q ρ k d → Q' ρ k d) → w ρ Q → w ρ Q'
def MonT (w : WT) : Prop := ∀ ρ (Q Q' : Rho → Bool → Prop), (∀ ρ b, Q ρ b → Q' ρ b) → w ρ Q → w ρ Q'
def MonA (w : WA) : Prop := ∀ ρ (Q Q' : Rho → List Sl → Prop), (∀ ρ d, Q ρ d → Q' ρ d) → w ρ Q → w ρ Q'
def MonP (w : WP) : Prop := ∀ ρ (Q Q' : Rho → Option Int → Prop), (∀ ρ d, Q ρ d → Q' ρ d) → w ρ Q → w ρ Q'
def MonO (w : WO2) : Prop := ∀ k1 x k2 y (Q Q' : Kd → PyData → Prop), (∀ k d, Q k d → Q' k d) → w k1 x k2 y Q → w k1 x k2 y Q'
def MonC (w : WC) : Prop := ∀ ds (Q Q' : Kd → PyData → Prop), (∀ k d, Q k d → Q' k d) → w ds Q → w ds Q'
def MonG (w : WG) : Prop := ∀ k d ρ (Q Q' : Rho → Prop), (∀ ρ, Q ρ → Q' ρ) → w k d ρ Q → w k d ρ Q'
def MonGs (w : WGs) : Prop := ∀ ds ρ (Q Q' : Rho → Prop), (∀ ρ, Q ρ → Q' ρ) → w ds ρ Q → w ds ρ Q'
def MonF (wf : WF) : Prop := ∀ ds (Q Q' : PyData → Prop), (∀ d, Q d → Q' d) → wf ds Q → wf ds Q'
structure KLe (κ κ' : KS) : Prop where
  nx : ∀ ρ, κ.nx ρ → κ'.nx ρ
  rt : ∀ k d, κ.rt k d → κ'.rt k d
  rm : ∀ k d d0, κ.rm k d d0 → κ'.rm k d d0
  bk : ∀ ρ, κ.bk ρ → κ'.bk ρ
  ct : ∀ ρ, κ.ct ρ → κ'.ct ρ
def MonS (w : WS) : Prop := ∀ κ κ' ρ, KLe κ κ' → w κ ρ → w κ' ρ
/-! ### words of one's own, added later: an expression, a walk, a statement -/
inductive All2 {α β : Type} (R : α → β → Prop) : List α → List β → Prop
  | nil : All2 R [] []
  | cons {a : α} {b : β} {l : List α} {m : List β} : R a b → All2 R l m → All2 R (a :: l) (b :: m)
structure Sib (X X' : Cx) : Prop where
  prog : X'.prog = X.prog
  w : X'.w = X.w
  K : X'.K = X.K
  mg : X'.mg = X.mg
  base : X'.base = X.base
theorem Sib.refl (X : Cx) : Sib X X := ⟨rfl, rfl, rfl, rfl, rfl⟩
theorem Sib.cal {X X' : Cx} (s : Sib X X') (j : Nat) : CalR j X' = CalR j X := by
  obtain ⟨h1, h2, h3, h4, h5⟩ := s
  unfold CalR
  rw [h1, h2, h3, h4, h5]
abbrev Lean2 := CT × Str × Nat × WF
structure ExtX where
  t : PySem.W.Frag → List TE → TE
  w : List WE → WE
  ct : List Lean2
  mt : Mc → Scope → Expr → Option (List (Scope × Expr))
  lift : ∀ {K : PySem.W.Frag} {ts : List TE} {ws : List WE}, All2 (LiftE K) ts ws → LiftE K (t K ts) (w ws)
  mon : (∀ c ∈ ct, MonF c.2.2.2) → ∀ {ws : List WE}, (∀ a ∈ ws, MonE a) → MonE (w ws)
  tru : ∀ {m : Mc} {sc : Scope} {e : Expr} {es : List (Scope × Expr)}, mt m sc e = some es → truN e = true
  sound : ∀ {m : Mc} {sc : Scope} {j : Nat} {X : Cx}, Cxt m sc j X → (∀ c ∈ ct, CalR j X c.1 c.2.1 c.2.2.1 c.2.2.2) → ∀ {e : Expr} {es : List (Scope × Expr)} {ts : List TE}, mt m sc e = some es →
    All2 (fun (p : Scope × Expr) t => ∀ X', Sib X X' → Cxt m p.1 j X' → PE X' p.2 t) es ts → PE X e (t X.K ts)
structure ExtI where
  t : PySem.W.Frag → List TE → TI
  w : List WE → WI
  mt : Mc → Scope → Expr → Expr → Option (List (Scope × Expr))
  lift : ∀ {K : PySem.W.Frag} {ts : List TE} {ws : List WE}, All2 (LiftE K) ts ws → LiftI K (t K ts) (w ws)
  mon : ∀ {ws : List WE}, (∀ a ∈ ws, MonE a) → MonA (w ws)
  sound : ∀ {m : Mc} {sc : Scope} {j : Nat} {X : Cx}, Cxt m sc j X → ∀ {tg e : Expr} {es : List (Scope × Expr)} {ts : List TE}, mt m sc tg e = some es →
    All2 (fun (p : Scope × Expr) t => ∀ X', Sib X X' → Cxt m p.1 j X' → PE X' p.2 t) es ts → PI X tg e (t X.K ts)
structure ExtS where
  t : PySem.W.Frag → List TE → TS → TS
  w : List WE → WS → WS
  ct : List Lean2
  mt : Mc → Scope → Stmt → Option (List (Scope × Expr) × List Stmt)
  lift : ∀ {K : PySem.W.Frag} {ts : List TE} {ws : List WE} {tb : TS} {wb : WS}, All2 (LiftE K) ts ws → LiftS K tb wb → LiftS K (t K ts tb) (w ws wb)
  mon : (∀ c ∈ ct, MonF c.2.2.2) → ∀ {ws : List WE} {wb : WS}, (∀ a ∈ ws, MonE a) → MonS wb → MonS (w ws wb)
  sound : ∀ {m : Mc} {sc : Scope} {j : Nat} {X : Cx}, Cxs m sc j X → (∀ c ∈ ct, CalR j X c.1 c.2.1 c.2.2.1 c.2.2.2) → ∀ {s : Stmt} {es : List (Scope × Expr)} {b : List Stmt} {ts : List TE} {tb : TS}, mt m sc s = some (es, b) →
    All2 (fun (p : Scope × Expr) t => ∀ X', Sib X X' → Cxt m p.1 j X' → PE X' p.2 t) es ts → L2.PSs X b tb → PS X s (t X.K ts tb)
end PL
namespace PL
open PySem PySem.Spec L2

/-! ### the program's text, without places in the file -/
inductive BOp where | add | sub | mul | div | mod | pow | rep
inductive COp where | lt | le | gt | ge | eq | ne | is | isn | inn | nin
mutual
inductive PGt where
  | nm (i : Nat)
  | tp (l : PGts)
inductive PGts where
  | nil
  | cons (g : PGt) (l : PGts)
end
mutual
inductive PX where
  | var (i : Nat) | mv (i : Nat) | fz (i : Nat)
  | int (n : Int) | bl (b : Bool) | non | str (s : Str)
  | bin (o : BOp) (a b : PX)
  | cmp (o : COp) (a b : PX)
  | chain (o o' : COp) (a b c : PX)
  | chain3 (o o' o2 : COp) (a b c d : PX)
  | and (a b : PX) | or (a b : PX) | one (a : PX)
  | not (a : PX) | neg (a : PX)
  | ife (c a b : PX)
  | tup (l : PXs) | lst (l : PXs)
  | ix (a b : PX)
  | sl (a : PX) (lo hi : PXo)
  | cb (f : Nat) (l : PXs)
  | isi (T : Nat) (a : PX)
  | isx (rs cs : List Str) (t : Bool) (i : Nat)
  | call (f : Str) (n : Nat) (wf : WF) (l : PXs)
  | callF (f : Str) (n : Nat) (wf : WF) (l : PXs)
  | lrev (a : PX)
  | lrg (a : PX)
  | ixr (i : Nat) (b : PX)
  | pur (a : PX)
  | cpr (t : Bool) (i : Nat)
  | att (c : ClD) (n i : Nat)
  | meth (c : ClD) (m : Str) (n : Nat) (wf : WF) (o : PX) (l : PXs)
  | make (c : ClD) (n : Nat) (wf : WF) (l : PXs)
  | gst (x s : Str)
  | sm (f : Nat) (o : PX) (l : PXs)
  | lc (it : PXi) (g : PGt) (c : PXo) (e : PX) (vs : List Nat)
  | lcO (i : Nat) (g : PGt) (c : PXo) (e : PX) (vs : List Nat)
  | xt (x : ExtX) (l : PXs)
inductive PXs where
  | nil
  | cons (a : PX) (l : PXs)
inductive PXo where
  | no
  | so (a : PX)
inductive PXi where
  | li (a : PX) | ti (a : PX) | r1 (a : PX) | r2 (a b : PX) | r3 (a b c : PX) | rev (a : PX) | enum (a : PX) | lq (a : PX) | st (a : PX) | xt (x : ExtI) (l : PXs)
end

/-! ### their readings -/
section
variable (K : PySem.W.Frag)
def bopR : BOp → R2
  | .add => fun x y H Q => rI0 (fun i j => .int (i + j)) x y H Q ∨ ((∃ i j, x = .str i ∧ y = .str j ∧ i.length + j.length ≤ sizeLine ∧ Q (.str (i ++ j)) H) ∨ (rCat x y H Q ∨ rCatT K x y H Q))
  | .sub => rI0 fun i j => .int (i - j)
  | .mul => rI (fun i j => CMul i j ∨ CMulW i j) fun i j => .int (i * j)
  | .div => rI CDivW fun i j => .int (i / j)
  | .mod => rI (fun _ j => 0 < j) fun i j => .int (i % j)
  | .pow => rI CPow fun i j => .int (i ^ j.toNat)
  | .rep => rRepA K
def bopW : BOp → WO2
  | .add => wAdd
  | .sub => wSub
  | .mul => wMul
  | .div => wDiv
  | .mod => wMod
  | .pow => wPow
  | .rep => wRep
def bopO : BOp → Operator
  | .add => .Add
  | .sub => .Sub
  | .mul => .Mult
  | .div => .FloorDiv
  | .mod => .Mod
  | .pow => .Pow
  | .rep => .Mult
def copR : COp → R2
  | .lt => rI0 fun i j => .bl (decide (i < j))
  | .le => rI0 fun i j => .bl (decide (i ≤ j))
  | .gt => rI0 fun i j => .bl (decide (j < i))
  | .ge => rI0 fun i j => .bl (decide (j ≤ i))
  | .eq => rEqD K
  | .ne => rNeD K
  | .is => fun x y H Q => (y = .non ∧ Q (.bl (decide (x = .non))) H) ∨ rIsB x y H Q
  | .isn => fun x y H Q => (y = .non ∧ Q (.bl (!decide (x = .non))) H) ∨ rNotB x y H Q
  | .inn => fun x y H Q => (∃ i j, x = .str i ∧ y = .str j ∧ Q (.bl (!(Builtin.Str.occurrences j i 0 j.length 1).isEmpty)) H) ∨ rInD K x y H Q
  | .nin => fun x y H Q => (∃ i j, x = .str i ∧ y = .str j ∧ Q (.bl (!(!(Builtin.Str.occurrences j i 0 j.length 1).isEmpty))) H) ∨ rNotInD K x y H Q
def copW : COp → WO2
  | .lt => wLt
  | .le => wLe
  | .gt => wGt
  | .ge => wGe
  | .eq => wEq
  | .ne => wNe
  | .is => wIs
  | .isn => wIsNot
  | .inn => wIn
  | .nin => wNotIn
def copO : COp → CmpOp
  | .lt => .Lt
  | .le => .LtE
  | .gt => .Gt
  | .ge => .GtE
  | .eq => .Eq
  | .ne => .NotEq
  | .is => .Is
  | .isn => .IsNot
  | .inn => .In
  | .nin => .NotIn
/-- the built-ins that are called by name -/
def cbN : Nat → Str
  | 0 => "len"
  | 1 => "max"
  | 2 => "min"
  | 3 => "list"
  | 4 => "tuple"
  | 5 => "sorted"
  | 6 => "int"
  | 7 => "min"
  | 8 => "max"
  | 9 => "str"
  | _ => "sum"
def cTup : WC := fun ds Q => match ds with
  | [(k, .list ds)] => if flats ds = true then Q .un (.tuple ds) else k ≠ .br ∧ k ≠ .ro ∧ k ≠ .io ∧ Q .fr (.tuple ds)
  | [(k, .tuple ds)] => Q k (.tuple ds)
  | _ => False
def cInt : WC := fun ds Q => match ds with
  | [(_, .int i)] => Q .un (.int i)
  | [(_, .bool b)] => Q .un (.int (if b then 1 else 0))
  | [(_, .str a)] => ∃ n, PySem.intText? a = some n ∧ a.length ≤ 640 ∧ Q .un (.int n)
  | _ => False
/-- a number's text -/
def strI (i : Int) : Str := toString i
def cStr : WC := fun ds Q => match ds with
  | [(_, .int i)] => i.natAbs.log2 < 1920 ∧ Q .un (.str (strI i))
  | _ => False
def cSum : WC := fun ds Q => match ds with
  | [(_, .list ds)] => ∃ ns, ints? ds = some ns ∧ Q .un (.int ns.sum)
  | _ => False
def cbW : Nat → WC
  | 0 => cLen
  | 1 => cMax
  | 2 => cMin
  | 3 => cList
  | 4 => cTup
  | 5 => cSort
  | 6 => cInt
  | 7 => cMnd
  | 8 => cMxd
  | 9 => cStr
  | _ => cSum
def cbR : Nat → List V → Hp → VK → Prop
  | 0 => fun xs H Q => ∃ x n, xs = [x] ∧ LenV K x H n ∧ Q (.int n) H
  | 1 => fun xs H Q => ((∃ i j, xs = [.int i, .int j] ∧ Q (.int (if j > i then j else i)) H) ∨ rMax K xs H Q) ∨ rMx3 xs H Q
  | 2 => fun xs H Q => (∃ i j, xs = [.int i, .int j] ∧ Q (.int (if j < i then j else i)) H) ∨ rMin K xs H Q
  | 3 => fun xs H Q => ∃ p ys, xs = [.ref p] ∧ (SqL K H p ys ∨ SqT K H p ys) ∧ ∀ l, H l = none → Q (.ref l) (upd H l (.lst ys))
  | 4 => fun xs H Q => ∃ p ys, xs = [.ref p] ∧ ((SqL K H p ys ∧ ∀ l, H l = none → Q (.ref l) (upd H l (.tup ys))) ∨ (SqT K H p ys ∧ Q (.ref p) H))
  | 5 => rSortT K
  | 6 => fun xs H Q => ((∃ i, xs = [.int i] ∧ Q (.int i) H) ∨ ∃ k, xs = [.bl k] ∧ Q (.int (if k then 1 else 0)) H) ∨ ∃ a n, xs = [.str a] ∧ PySem.intText? a = some n ∧ a.length ≤ 640 ∧ Q (.int n) H
  | 7 => rMnd K
  | 8 => rMxd K
  | 9 => fun xs H Q => ∃ i, xs = [.int i] ∧ i.natAbs.log2 < 1920 ∧ Q (.str (toString i)) H
  | _ => rSum K
/-- the methods of texts, and `index` of lists, that are called by name -/
def smN : Nat → Str
  | 0 => "split"
  | 1 => "partition"
  | 2 => "join"
  | 3 => "upper"
  | _ => "index"
def smC : Nat → V → Hp → Prop
  | 0 => fun x _ => ∃ a, x = .str a
  | 1 => fun x _ => ∃ a, x = .str a
  | 2 => fun x _ => ∃ a, x = .str a
  | 3 => fun x _ => ∃ a, x = .str a
  | _ => fun x H => tyV K "list" x H
def smR : Nat → V → List V → Hp → VK → Prop
  | 0 => fun x xs H Q => ∃ a b, x = .str a ∧ xs = [.str b] ∧ (b.length == 0) = false ∧ a.length + 2 ≤ sizeLine ∧ rNewStrs (Txt.split a b) H Q
  | 1 => fun x xs H Q => ∃ a b, x = .str a ∧ xs = [.str b] ∧ (b.length == 0) = false ∧ a.length ≤ sizeLine ∧ ∀ p, H p = none → Q (.ref p) (upd H p (.tup [.str (Txt.partition a b).1, .str (Txt.partition a b).2.1, .str (Txt.partition a b).2.2]))
  | 2 => fun x xs H Q => ∃ a p, ∃ ys : List Str, x = .str a ∧ xs = [.ref p] ∧ (SqL K H p (ys.map V.str) ∨ SqT K H p (ys.map V.str)) ∧ (ys.map (·.length)).sum + ys.length * a.length ≤ 16777216 ∧ Q (.str (Txt.join a ys)) H
  | 3 => fun x xs H Q => ∃ a, x = .str a ∧ xs = [] ∧ a.length ≤ 5592405 ∧ Q (.str (Txt.upper a)) H
  | _ => rIndexD K
def smT : Nat → PyData → Bool
  | 0, .str _ => true
  | 1, .str _ => true
  | 2, .str _ => true
  | 3, .str _ => true
  | 4, .list _ => true
  | _, _ => false
def strs? : List PyData → Option (List Str)
  | [] => some []
  | .str i :: ds => (strs? ds).map (i :: ·)
  | _ => none
def sSplit : WC := fun ds Q => match ds with
    | [(_, .str a), (_, .str b)] => (b.length == 0) = false ∧ a.length + 2 ≤ sizeLine ∧ Q .un (.list ((Txt.split a b).map .str))
    | _ => False
def sPart : WC := fun ds Q => match ds with
    | [(_, .str a), (_, .str b)] => (b.length == 0) = false ∧ a.length ≤ sizeLine ∧ Q .un (.tuple [.str (Txt.partition a b).1, .str (Txt.partition a b).2.1, .str (Txt.partition a b).2.2])
    | _ => False
def sJoin : WC := fun ds Q => match ds with
    | [(_, .str a), (_, .list xs)] => ∃ ys, strs? xs = some ys ∧ (ys.map (·.length)).sum + ys.length * a.length ≤ 16777216 ∧ Q .un (.str (Txt.join a ys))
    | _ => False
def sUpper : WC := fun ds Q => match ds with
    | [(_, .str a)] => a.length ≤ 5592405 ∧ Q .un (.str (Txt.upper a))
    | _ => False
def sIndex : WC := fun ds Q => match ds with
    | [(_, .list xs), (_, d)] => SeqAt.shaped (.list xs) = true ∧ SeqAt.shaped d = true ∧ ∃ j z, xs[j]? = some z ∧ PyData.eqv z d = true ∧ (∀ (m : Nat) (z' : PyData), m < j → xs[m]? = some z' → PyData.eqv z' d = false) ∧ Q .un (.int (j : Nat))
    | _ => False
def smW : Nat → WC
  | 0 => sSplit
  | 1 => sPart
  | 2 => sJoin
  | 3 => sUpper
  | 4 => sIndex
  | _ => fun _ _ => False
def tSm (f : Nat) (to : TE) (t : TA) : TE := fun σ H Q => to σ H fun x H1 => smC K f x H1 ∧ t σ H1 fun xs H2 => smR K f x xs H2 Q
end
section
variable {K : PySem.W.Frag}
theorem lift_bop : ∀ o, LiftO K (bopR K o) (bopW o)
  | .add => (lift_addI.or (lift_addS.or (lift_cat.or lift_catT))).imp fun k1 x k2 y Q h => by
    have h : wAdd k1 x k2 y Q := h
    unfold wAdd at h
    split at h
    · exact .inl ⟨trivial, h⟩
    · exact .inr (.inl h)
    · exact .inr (.inr (.inl h))
    · exact .inr (.inr (.inr h))
    · exact h.elim
  | .sub => lift_rI0 fun i j H => .int _
  | .mul => lift_rI fun i j H => .int _
  | .div => lift_rI fun i j H => .int _
  | .mod => lift_rI fun i j H => .int _
  | .pow => lift_rI fun i j H => .int _
  | .rep => lift_rep
theorem lift_eq : LiftO K (rEqD K) wEq := by
  intro G H L k1 k2 x y v u Q Qp s hw q
  exact ⟨x, y, s.drop.dp.sh hw.1, s.dp.sh hw.2.1, hw.1, hw.2.1, q _ H .un _ (s.drop.drop.scal (.bl _)) hw.2.2⟩
theorem lift_ne : LiftO K (rNeD K) wNe := by
  intro G H L k1 k2 x y v u Q Qp s hw q
  exact ⟨x, y, s.drop.dp.sh hw.1, s.dp.sh hw.2.1, hw.1, hw.2.1, q _ H .un _ (s.drop.drop.scal (.bl _)) hw.2.2⟩
theorem lift_is : LiftO K (copR K .is) wIs := by
  intro G H L k1 k2 x y v u Q Qp s hw q
  have hx := s.drop.dp
  have hy := s.dp
  unfold wIs at hw
  split at hw
  · cases hy
    exact .inl ⟨rfl, by rw [dp_isNon hx]; exact q _ H .un _ (s.drop.drop.scal (.bl _)) hw⟩
  · cases hy
    cases hx
    exact .inr ⟨_, _, rfl, rfl, q _ H .un _ (s.drop.drop.scal (.bl _)) hw⟩
  · exact hw.elim
theorem lift_isn : LiftO K (copR K .isn) wIsNot := by
  intro G H L k1 k2 x y v u Q Qp s hw q
  have hx := s.drop.dp
  have hy := s.dp
  unfold wIsNot at hw
  split at hw
  · cases hy
    exact .inl ⟨rfl, by rw [dp_isNon2 hx]; exact q _ H .un _ (s.drop.drop.scal (.bl _)) hw⟩
  · cases hy
    cases hx
    exact .inr ⟨_, _, rfl, rfl, q _ H .un _ (s.drop.drop.scal (.bl _)) hw⟩
  · exact hw.elim
theorem lift_inn : LiftO K (copR K .inn) wIn := by
  intro G H L k1 k2 x y v u Q Qp s hw q
  have hx := s.drop.dp
  have hy := s.dp
  unfold wIn at hw
  split at hw
  · cases hx
    cases hy
    exact .inl ⟨_, _, rfl, rfl, q _ H .un _ (s.drop.drop.scal (.bl _)) hw⟩
  · exact .inr ⟨_, _, hx.sh hw.1, hy.sh hw.2.1, hw.1, hw.2.1, q _ H .un _ (s.drop.drop.scal (.bl _)) hw.2.2⟩
  · exact hw.elim
theorem lift_nin : LiftO K (copR K .nin) wNotIn := by
  intro G H L k1 k2 x y v u Q Qp s hw q
  have hx := s.drop.dp
  have hy := s.dp
  unfold wNotIn at hw
  split at hw
  · cases hx
    cases hy
    exact .inl ⟨_, _, rfl, rfl, q _ H .un _ (s.drop.drop.scal (.bl _)) hw⟩
  · exact .inr ⟨_, _, hx.sh hw.1, hy.sh hw.2.1, hw.1, hw.2.1, q _ H .un _ (s.drop.drop.scal (.bl _)) hw.2.2⟩
  · exact hw.elim
theorem lift_cop : ∀ o, LiftO K (copR K o) (copW o)
  | .lt => lift_rI0 fun _ _ _ => .bl _
  | .le => lift_rI0 fun _ _ _ => .bl _
  | .gt => lift_rI0 fun _ _ _ => .bl _
  | .ge => lift_rI0 fun _ _ _ => .bl _
  | .eq => lift_eq
  | .ne => lift_ne
  | .is => lift_is
  | .isn => lift_isn
  | .inn => lift_inn
  | .nin => lift_nin
theorem lift_tuple : LiftC K (cbR K 4) cTup := by
  intro G H L vs ds cs Q Qp hc s hw q
  unfold cTup at hw
  split at hw
  · rename_i k ds
    cases hc with
    | cons hc =>
      cases hc
      have dv := s.dp
      obtain ⟨p, rfl⟩ := dp_ref_l dv
      split at hw
      · rename_i f
        cases dv with
        | lst hs ha =>
          refine ⟨p, _, rfl, .inl ⟨hs, fun l hl => ?_⟩⟩
          have r := dpAll_flat ha f
          exact q _ _ .un _ (s.drop.fresh (F := []) (same_upd hl) (.tup (SqT.of upd_same) (r.same (same_upd hl))) .nil (by simp)) hw
      · obtain ⟨m1, m2, m3, hw⟩ := hw
        obtain ⟨E, st⟩ := s.frz2 m1 m2 m3
        obtain ⟨F1, q1⟩ := st.sn _ List.mem_cons_self
        have ex := st.ex
        cases q1 with
        | @lst _ zs _ _ hs ha =>
          refine ⟨p, _, rfl, .inl ⟨SqL.of (hide_same _ _ hs), fun l hl => ?_⟩⟩
          cases ex with
          | fr ex =>
            have pE : l ∉ E := fun z => by
              obtain ⟨_, e, _⟩ := ex.mem l z
              rw [hl] at e; cases e
            have sm' : Same H (upd H l (.tup zs)) := same_upd hl
            refine q _ _ .fr _ ⟨E, .fr (ex.same sm'), st.nd, st.nw, st.sm.trans (hide_ext sm'), st.gr.trans sm', fun c hc => ?_⟩ hw
            rcases List.mem_cons.mp hc with rfl | hc
            · exact ⟨_, .tup (SqT.of (by rw [hide_of pE]; exact upd_same)) (ha.same (hide_ext sm'))⟩
            · exact (st.sn c (List.mem_cons_of_mem _ hc)).ext sm'
  · cases hc with
    | cons hc =>
      cases hc
      have dv := s.dp
      obtain ⟨p, rfl⟩ := dp_ref_t dv
      cases dv with
      | tup hs ha => exact ⟨p, _, rfl, .inr ⟨hs, q _ H _ _ s hw⟩⟩
  · exact hw.elim
theorem lift_cint : LiftC K (cbR K 6) cInt := by
  intro G H L vs ds cs Q Qp hc s hw q
  unfold cInt at hw
  split at hw
  · cases hc with
    | cons hc =>
      cases hc
      have h1 := s.dp
      cases h1
      exact .inl (.inl ⟨_, rfl, q _ H .un _ (s.drop.scal (.int _)) hw⟩)
  · cases hc with
    | cons hc =>
      cases hc
      have h1 := s.dp
      cases h1
      exact .inl (.inr ⟨_, rfl, q _ H .un _ (s.drop.scal (.int _)) hw⟩)
  · cases hc with
    | cons hc =>
      cases hc
      have h1 := s.dp
      cases h1
      obtain ⟨n, h1, h2, hw⟩ := hw
      exact .inr ⟨_, n, rfl, h1, h2, q _ H .un _ (s.drop.scal (.int _)) hw⟩
  · exact hw.elim
theorem lift_cstr : LiftC K (cbR K 9) cStr := by
  intro G H L vs ds cs Q Qp hc s hw q
  unfold cStr at hw
  split at hw
  · cases hc with
    | cons hc =>
      cases hc
      have h1 := s.dp
      cases h1
      exact ⟨_, rfl, hw.1, q _ H .un _ (s.drop.scal (.str _)) hw.2⟩
  · exact hw.elim
theorem lift_csum : LiftC K (rSum K) cSum := by
  intro G H L vs ds cs Q Qp hc s hw q
  unfold cSum at hw
  split at hw
  · cases hc with
    | cons hc =>
      cases hc
      have h1 := s.dp
      obtain ⟨ns, e, hw⟩ := hw
      cases h1 with
      | lst hs ha =>
        rw [dpAll_ints ha e] at hs
        exact ⟨_, ns, rfl, hs, q _ H .un _ (s.drop.scal (.int _)) hw⟩
  · exact hw.elim
theorem dpAll_strs {H : Hp} : ∀ {vs : List V} {ds : List PyData} {ns : List Str}, DpAll K H vs ds → strs? ds = some ns → vs = ns.map V.str
  | _, [], _, .nil, h => by
    have e : [] = _ := Option.some.inj h
    subst e; rfl
  | _, d :: ds, ns, .cons r s, h => by
    cases r with
    | str i =>
      have h' : (strs? ds).map (i :: ·) = some ns := h
      cases q : strs? ds with
      | none => rw [q] at h'; cases h'
      | some ms =>
        rw [q] at h'
        have e : i :: ms = ns := Option.some.inj h'
        rw [← e, dpAll_strs s q]; rfl
    | _ => cases h
theorem rx_strs {H : Hp} : ∀ l : List Str, RxAll K H (l.map V.str) (l.map PyData.str) []
  | [] => .nil
  | x :: l => RxAll.cons (F := []) (F' := []) (.str x) (rx_strs l)
/-- a method: the thing it belongs to, then the arguments -/
def wSm (f : Nat) (wo : WE) (was : WA) : WE := fun ρ Q => wo ρ fun ρ1 k d => smT f d = true ∧ was ρ1 fun ρ2 ds => smW f ((k, d) :: ds) fun k' d' => Q ρ2 k' d'
theorem lift_smF : ∀ (f : Nat) {G : Gh} {H : Hp} {L : List Cel} {v : V} {k : Kd} {d : PyData} {vs : List V} {ds : List Sl} {cs : List Cel} {Q : VK} {Qp : Kd → PyData → Prop}, Cels vs ds cs → St0 K H G (⟨v, k, d⟩ :: (cs ++ L)) → smW f ((k, d) :: ds) Qp →
    (∀ z H' k d, St0 K H' G (⟨z, k, d⟩ :: L) → Qp k d → Q z H') → smR K f v vs H Q
  | 0, G, H, L, v, k, d, vs, ds, cs, Q, Qp, hc, s, hw, q => by
    have hw : sSplit ((k, d) :: ds) Qp := hw
    unfold sSplit at hw
    split at hw
    · rename_i e
      cases e
      cases hc with
      | cons hc =>
        cases hc
        have h1 := s.dp
        have h2 := s.drop.dp
        cases h1; cases h2
        exact ⟨_, _, rfl, rfl, hw.1, hw.2.1, fun p hp => q _ _ .un _ (s.drop.drop.newUn (rx_strs _) hp) hw.2.2⟩
    · exact hw.elim
  | 1, G, H, L, v, k, d, vs, ds, cs, Q, Qp, hc, s, hw, q => by
    have hw : sPart ((k, d) :: ds) Qp := hw
    unfold sPart at hw
    split at hw
    · rename_i e
      cases e
      cases hc with
      | cons hc =>
        cases hc
        have h1 := s.dp
        have h2 := s.drop.dp
        cases h1; cases h2
        exact ⟨_, _, rfl, rfl, hw.1, hw.2.1, fun p hp => q _ _ .un _ (s.drop.drop.fresh (F := []) (same_upd hp) (.tup (SqT.of upd_same) (rx_strs [_, _, _])) .nil (by simp)) hw.2.2⟩
    · exact hw.elim
  | 2, G, H, L, v, k, d, vs, ds, cs, Q, Qp, hc, s, hw, q => by
    have hw : sJoin ((k, d) :: ds) Qp := hw
    unfold sJoin at hw
    split at hw
    · rename_i e
      cases e
      obtain ⟨ys, e, h3, hw⟩ := hw
      cases hc with
      | cons hc =>
        cases hc
        have h1 := s.dp
        have h2 := s.drop.dp
        cases h1
        cases h2 with
        | lst hs ha =>
          rw [dpAll_strs ha e] at hs
          exact ⟨_, _, ys, rfl, rfl, .inl hs, h3, q _ _ .un _ (s.drop.drop.scal (.str _)) hw⟩
    · exact hw.elim
  | 3, G, H, L, v, k, d, vs, ds, cs, Q, Qp, hc, s, hw, q => by
    have hw : sUpper ((k, d) :: ds) Qp := hw
    unfold sUpper at hw
    split at hw
    · rename_i e
      cases e
      cases hc
      have h1 := s.dp
      cases h1
      exact ⟨_, rfl, rfl, hw.1, q _ _ .un _ (s.drop.scal (.str _)) hw.2⟩
    · exact hw.elim
  | 4, G, H, L, v, k, d, vs, ds, cs, Q, Qp, hc, s, hw, q => by
    have hw : sIndex ((k, d) :: ds) Qp := hw
    unfold sIndex at hw
    split at hw
    · rename_i e
      cases e
      obtain ⟨s1, s2, j, z, hz, hj, hm, hw⟩ := hw
      cases hc with
      | cons hc =>
        cases hc
        have h1 := s.dp
        have h2 := s.drop.dp
        obtain ⟨p, rfl⟩ := dp_ref_l h1
        exact ⟨p, _, _, _, j, z, rfl, rfl, h1.sh s1, h2.sh s2, s1, s2, hz, hj, hm, q _ _ .un _ (s.drop.drop.scal (.int _)) hw⟩
    · exact hw.elim
  | _ + 5, G, H, L, v, k, d, vs, ds, cs, Q, Qp, hc, s, hw, q => hw.elim
theorem lift_sm {f : Nat} {to : TE} {wo : WE} {t : TA} {was : WA} (lo : LiftE K to wo) (l : LiftA K t was) : LiftE K (tSm K f to t) (wSm f wo was) := by
  intro G H σ ρ L Q Qp ok s h q
  refine lo G H σ ρ L _ _ ok s h fun v H1 ρ1 k d ok1 s1 h1 => ?_
  obtain ⟨ht, h1⟩ := h1
  refine ⟨?_, ?_⟩
  · have dv := s1.dp
    have hf : (f = 0 ∨ f = 1 ∨ f = 2 ∨ f = 3) ∨ f = 4 := by
      rcases f with _ | _ | _ | _ | _ | f
      · exact .inl (.inl rfl)
      · exact .inl (.inr (.inl rfl))
      · exact .inl (.inr (.inr (.inl rfl)))
      · exact .inl (.inr (.inr (.inr rfl)))
      · exact .inr rfl
      · cases d <;> cases ht
    rcases hf with hf | rfl
    · rcases hf with rfl | rfl | rfl | rfl <;> cases dv <;> first | exact ⟨_, rfl⟩ | cases ht
    · show tyV K "list" v H1
      cases dv <;> first | cases ht | skip
      rename_i hs _
      exact .inl ⟨rfl, _, hs⟩
  · refine l G H1 σ ρ1 (⟨v, k, d⟩ :: L) _ _ ok1 (s1.perm List.perm_middle.symm) h1 fun vs H2 ρ2 ds cs ok2 hc s2 h2 => ?_
    have s3 : St0 K H2 G (⟨v, k, d⟩ :: (cs ++ (lv σ ρ2 ++ L))) := s2.perm ((List.Perm.append_left cs List.perm_middle).trans List.perm_middle)
    exact lift_smF f hc s3 h2 fun z H3 k' d' s4 hq => q z H3 ρ2 k' d' ok2 s4 hq
theorem lift_cbF : ∀ f, LiftC K (cbR K f) (cbW f)
  | 0 => lift_len
  | 1 => lift_max
  | 2 => lift_min
  | 3 => lift_list
  | 4 => lift_tuple
  | 5 => lift_sort
  | 6 => lift_cint
  | 7 => lift_mnd
  | 8 => lift_mxd
  | 9 => lift_cstr
  | _ + 10 => lift_csum
end

/-! ### targets -/
section
variable (K : PySem.W.Frag)
def gsLenOf : PGts → Nat
  | .nil => 0
  | .cons _ l => gsLenOf l + 1
mutual
def rdG : PGt → TG
  | .nm i => gName i
  | .tp l => gSq K (gsLenOf l) (rdGs l)
def rdGs : PGts → TGs
  | .nil => gNil
  | .cons g l => gCons (rdG g) (rdGs l)
end
mutual
def wG : PGt → WG
  | .nm i => gN i
  | .tp l => gT (wGs l)
def wGs : PGts → WGs
  | .nil => gsNil
  | .cons g l => gsCons (wG g) (wGs l)
end
mutual
def gIn (vs : List Nat) : PGt → Bool
  | .nm i => vs.contains i
  | .tp l => gsIn vs l
def gsIn (vs : List Nat) : PGts → Bool
  | .nil => true
  | .cons g l => gIn vs g && gsIn vs l
end
end
section
variable {K : PySem.W.Frag}
mutual
theorem wG_ex : ∀ (g : PGt) k d ρ (Q : Rho → Prop), wG g k d ρ Q → ∃ ρ', Q ρ'
  | .nm i => ex_gN
  | .tp l => ex_gT (wGs_ex l)
theorem wGs_ex : ∀ (l : PGts) ds ρ (Q : Rho → Prop), wGs l ds ρ Q → ∃ ρ', Q ρ'
  | .nil => ex_gsNil
  | .cons g l => ex_gsCons (wG_ex g) (wGs_ex l)
end
theorem wGs_len : ∀ l : PGts, gsLen (wGs l) (gsLenOf l)
  | .nil => gsLen_nil
  | .cons g l => gsLen_cons (wGs_len l) (wG_ex g)
mutual
theorem liftG : ∀ g : PGt, LiftG K (rdG K g) (wG g)
  | .nm i => lift_gN i
  | .tp l => lift_gT (liftGs l) (wGs_len l)
theorem liftGs : ∀ l : PGts, LiftGs K (rdGs K l) (wGs l)
  | .nil => lift_gsNil
  | .cons g l => lift_gsCons (liftG g) (liftGs l)
end
mutual
theorem rdG_mono : ∀ (g : PGt) v σ H (Q Q' : St → Hp → Prop), (∀ σ H, Q σ H → Q' σ H) → rdG K g v σ H Q → rdG K g v σ H Q'
  | .nm i => gName_mono
  | .tp l => gTup_mono (rdGs_mono l)
theorem rdGs_mono : ∀ (l : PGts) xs σ H (Q Q' : St → Hp → Prop), (∀ σ H, Q σ H → Q' σ H) → rdGs K l xs σ H Q → rdGs K l xs σ H Q'
  | .nil => gNil_mono
  | .cons g l => gCons_mono (rdG_mono g) (rdGs_mono l)
end
mutual
theorem rdG_in {vs : List Nat} : ∀ (g : PGt), gIn vs g = true → TgIn (rdG K g) vs
  | .nm i, h => tgIn_name (List.contains_iff_mem.mp h)
  | .tp l, h => tgIn_tup (rdGs_in l h)
theorem rdGs_in {vs : List Nat} : ∀ (l : PGts), gsIn vs l = true → TgsIn (rdGs K l) vs
  | .nil, _ => tgsIn_nil
  | .cons g l, h => by
    have h : (gIn vs g && gsIn vs l) = true := h
    rw [Bool.and_eq_true] at h
    exact tgsIn_cons (rdG_in g h.1) (rdGs_in l h.2) (rdG_mono g) (rdGs_mono l)
end
end

/-! ### isinstance of a kept error -/
def tIsx (K : PySem.W.Frag) (rs cs : List Str) (i : Nat) : TE := fun σ H Q => ∃ a C x, σ[i]? = some (some (.ref a)) ∧ H a = some (XO a (.ref C) none) ∧ ExAt K x C ∧ x ∈ rs ∧ ∀ H', Same H H' → Q (.bl (cs.any (sub x))) H'
def wIsx (rs cs : List Str) (i : Nat) : WE := fun ρ Q => match ρ[i]? with
  | some (some (_, .dict [(.none, .str x)])) => x ∈ rs ∧ Q ρ .un (.bool (cs.any (sub x)))
  | _ => False
theorem lift_isx {K : PySem.W.Frag} {rs cs : List Str} {i : Nat} : LiftE K (tIsx K rs cs i) (wIsx rs cs i) := by
  intro G H σ ρ L Q Qp ok s h q
  unfold wIsx at h
  split at h
  · rename_i k x e
    obtain ⟨v, e1, p1, ok2, g⟩ := ok.slot e
    have dv := (s.perm (p1.append_right L)).dp
    cases dv with
    | ex hs c => exact ⟨_, _, _, e1, hs, c, h.1, fun H' sm => q _ H' ρ .un _ ok ((s.grow sm).scal (.bl _)) h.2⟩
  · exact h.elim
/-! ### expressions -/
section
variable (K : PySem.W.Frag)
def tTru (K : PySem.W.Frag) (t : TE) : TT := fun σ H Q => t σ H fun x H' => ∃ k, TruV K x H' k ∧ Q k H'
mutual
def rd : PX → TE × TT
  | .var i => (tVar i, tTru K (tVar i))
  | .mv i => (tVar i, tTru K (tVar i))
  | .fz i => (tVar i, tTru K (tVar i))
  | .int n => (tC (.int n), tTru K (tC (.int n)))
  | .bl b => (tC (.bl b), tTru K (tC (.bl b)))
  | .non => (tC .non, tTru K (tC .non))
  | .str s => (tC (.str s), tTru K (tC (.str s)))
  | .bin o a b => (tOp (bopR K o) (rd a).1 (rd b).1, tTru K (tOp (bopR K o) (rd a).1 (rd b).1))
  | .cmp o a b => (tOp (copR K o) (rd a).1 (rd b).1, tTest (tOp (copR K o) (rd a).1 (rd b).1))
  | .chain o o' a b c => (tChain (copR K o) (copR K o') (rd a).1 (rd b).1 (rd c).1, tTest (tChain (copR K o) (copR K o') (rd a).1 (rd b).1 (rd c).1))
  | .chain3 o o' o2 a b c d => (tChain3 (copR K o) (copR K o') (copR K o2) (rd a).1 (rd b).1 (rd c).1 (rd d).1, fun _ _ _ => False)
  | .and a b => (tAndV (rd a).1 (rd b).1, tAnd (rd a).2 (rd b).2)
  | .or a b => (tOrV (rd a).1 (rd b).1, tOr (rd a).2 (rd b).2)
  | .one a => rd a
  | .not a => (tNotV (rd a).1, tNot (rd a).2)
  | .neg a => (tUn (rU fun i => .int (-i)) (rd a).1, tTru K (tUn (rU fun i => .int (-i)) (rd a).1))
  | .ife c a b => (tIf (rd c).2 (rd a).1 (rd b).1, fun _ _ _ => False)
  | .tup l => (tTup (rdA l), tTru K (tTup (rdA l)))
  | .lst l => (tLst (rdA l), tTru K (tLst (rdA l)))
  | .ix a b => (tOp (rIx K) (rd a).1 (rd b).1, tTru K (tOp (rIx K) (rd a).1 (rd b).1))
  | .sl a lo hi => (tSl (fun x lo hi H Q => (rSlL K x lo hi H Q ∨ rSlS x lo hi H Q) ∨ rSlT K x lo hi H Q) (rd a).1 (rdO lo) (rdO hi), tTru K (tSl (fun x lo hi H Q => (rSlL K x lo hi H Q ∨ rSlS x lo hi H Q) ∨ rSlT K x lo hi H Q) (rd a).1 (rdO lo) (rdO hi)))
  | .cb f l => (tCB (cbR K f) (rdA l), tTru K (tCB (cbR K f) (rdA l)))
  | .isx rs cs _ i => (tIsx K rs cs i, tTru K (tIsx K rs cs i))
  | .isi T a => (tCB (rIsiX K) (tCons (rd a).1 (tCons (tC (.ty (isiT T))) tNil)), tTru K (tCB (rIsiX K) (tCons (rd a).1 (tCons (tC (.ty (isiT T))) tNil))))
  | .call f n wf l => (tCall (spP K n wf) [] E0 (rdA l), tTru K (tCall (spP K n wf) [] E0 (rdA l)))
  | .callF f n wf l => (tCall (spPF K n wf) [] E0 (rdA l), tTru K (tCall (spPF K n wf) [] E0 (rdA l)))
  | .lrev a => (tLstRev K (rd a).1, tTru K (tLstRev K (rd a).1))
  | .lrg a => (tLstRg (tRg1 (rd a).1), tTru K (tLstRg (tRg1 (rd a).1)))
  | .ixr i b => (tOp (rIx K) (tVar i) (rd b).1, tTru K (tOp (rIx K) (tVar i) (rd b).1))
  | .pur a => rd a
  | .cpr t i => (tCB (cbR K (if t then 4 else 3)) (tCons (tVar i) tNil), tTru K (tCB (cbR K (if t then 4 else 3)) (tCons (tVar i) tNil)))
  | .att c n i => (tFld K (tVar i) (c.ns.getD n ""), tTru K (tFld K (tVar i) (c.ns.getD n "")))
  | .meth c m n wf o l => (tMethX K c.nm m (spP K n wf) (rd o).1 (rdA l), tTru K (tMethX K c.nm m (spP K n wf) (rd o).1 (rdA l)))
  | .make c n wf l => (tMakeX K c (spM K (some 0) (n + 1) wf) (rdA l), tTru K (tMakeX K c (spM K (some 0) (n + 1) wf) (rdA l)))
  | .gst x s => (tC (.str s), tTru K (tC (.str s)))
  | .sm f o l => (tSm K f (rd o).1 (rdA l), tTru K (tSm K f (rd o).1 (rdA l)))
  | .lc it g c e vs => (tLc (rdI it) (rdG K g) (rdC c) (rd e).1 vs, tTru K (tLc (rdI it) (rdG K g) (rdC c) (rd e).1 vs))
  | .lcO i g c e vs => (tLc (iList K (tVar i)) (rdG K g) (rdC c) (rd e).1 vs, tTru K (tLc (iList K (tVar i)) (rdG K g) (rdC c) (rd e).1 vs))
  | .xt x l => (x.t K (rdL l), tTru K (x.t K (rdL l)))
def rdA : PXs → TA
  | .nil => tNil
  | .cons a l => tCons (rd a).1 (rdA l)
def rdO : PXo → TO
  | .no => tNoPart
  | .so a => tPart (rd a).1
def rdC : PXo → TT
  | .no => tYes
  | .so a => (rd a).2
def rdI : PXi → TI
  | .li a => iList K (rd a).1
  | .ti a => iTup K (rd a).1
  | .r1 a => iRng1 (tCons (rd a).1 tNil)
  | .r2 a b => iRng2 (tCons (rd a).1 (tCons (rd b).1 tNil))
  | .r3 a b c => iRng3 (tCons (rd a).1 (tCons (rd b).1 (tCons (rd c).1 tNil)))
  | .rev a => iRev K (tCons (rd a).1 tNil)
  | .enum a => iEnum K (tCons (rd a).1 tNil)
  | .lq a => iList K (rd a).1
  | .st a => iStr (rd a).1
  | .xt x l => x.t K (rdL l)
def rdL : PXs → List TE
  | .nil => []
  | .cons a l => (rd a).1 :: rdL l
end
end
def wYes : WT := fun ρ Q => Q ρ true
/-- a text's signs -/
def sgn (z : Str) : List Sl := z.cps.toList.map fun c => (.un, .str ⟨#[c]⟩)
def wStr (w : WE) : WI := fun ρ Q => w ρ fun ρ1 _ d => match d with
  | .str z => Q ρ1 (sgn z)
  | _ => False
theorem iterOk_str {K : PySem.W.Frag} {z : Str} : IterOk K (Its z) ⟨.non, .un, .none⟩ (sgn z) := by
  refine ⟨fun i H G M hi s => (show i < z.cps.size by simpa [sgn] using hi), fun H G M s => (show z.cps.size ≤ _ by simp [sgn]), fun i H G M x H' hi s hy => ?_⟩
  obtain ⟨rfl, c, hc, rfl⟩ := hy
  refine ⟨.un, _, ?_, s.scal (.str _)⟩
  show ((z.cps.toList.map fun c => ((.un, .str ⟨#[c]⟩) : Sl)))[i]? = _
  rw [List.getElem?_map, Array.getElem?_toList, hc]
  rfl
theorem lift_str {K : PySem.W.Frag} {ta : TE} {wa : WE} (l : LiftE K ta wa) : LiftI K (iStr ta) (wStr wa) := by
  intro G H σ ρ L R Qp ok s h q
  refine l G H σ ρ L _ _ ok s h fun v H1 ρ1 k d ok1 s1 h1 => ?_
  have dv := s1.dp
  split at h1
  · cases dv
    exact ⟨_, rfl, q _ H1 ρ1 _ _ ok1 (by intro z; cases z) (s1.drop.scal .non) iterOk_str h1⟩
  · exact h1.elim
mutual
def wX : PX → WE × WT
  | .var i => (wVar i, wTr (wVar i))
  | .mv i => (wMv i, wTr (wMv i))
  | .fz i => (wFz i, wTr (wFz i))
  | .int n => (wC (.int n), wTr (wC (.int n)))
  | .bl b => (wC (.bool b), wTr (wC (.bool b)))
  | .non => (wC .none, wTr (wC .none))
  | .str s => (wC (.str s), wTr (wC (.str s)))
  | .bin o a b => (w2 (bopW o) (wX a).1 (wX b).1, wTr (w2 (bopW o) (wX a).1 (wX b).1))
  | .cmp o a b => (w2 (copW o) (wX a).1 (wX b).1, wB (w2 (copW o) (wX a).1 (wX b).1))
  | .chain o o' a b c => (wChain (copW o) (copW o') (wX a).1 (wX b).1 (wX c).1, wB (wChain (copW o) (copW o') (wX a).1 (wX b).1 (wX c).1))
  | .chain3 o o' o2 a b c d => (wChain3 (copW o) (copW o') (copW o2) (wX a).1 (wX b).1 (wX c).1 (wX d).1, fun _ _ => False)
  | .and a b => (wAnd (wX a).1 (wX b).1, wTAnd (wX a).2 (wX b).2)
  | .or a b => (wOr (wX a).1 (wX b).1, wTOr (wX a).2 (wX b).2)
  | .one a => wX a
  | .not a => (wNot (wX a).1, wTNot (wX a).2)
  | .neg a => (wNeg (wX a).1, wTr (wNeg (wX a).1))
  | .ife c a b => (wIf (wX c).2 (wX a).1 (wX b).1, fun _ _ => False)
  | .tup l => (wTup (wA l), wTr (wTup (wA l)))
  | .lst l => (wLst (wA l), wTr (wLst (wA l)))
  | .ix a b => (w2 wIx (wX a).1 (wX b).1, wTr (w2 wIx (wX a).1 (wX b).1))
  | .sl a lo hi => (wSl (wX a).1 (wO lo) (wO hi), wTr (wSl (wX a).1 (wO lo) (wO hi)))
  | .cb f l => (wCB (cbW f) (wA l), wTr (wCB (cbW f) (wA l)))
  | .isx rs cs _ i => (wIsx rs cs i, wTr (wIsx rs cs i))
  | .isi T a => (wIsi T (wX a).1, wTr (wIsi T (wX a).1))
  | .call f n wf l => (wCall n wf (wA l), wTr (wCall n wf (wA l)))
  | .callF f n wf l => (wCallF n wf (wA l), wTr (wCallF n wf (wA l)))
  | .lrev a => (wLrev (wX a).1, wTr (wLrev (wX a).1))
  | .lrg a => (wLrg (wX a).1, wTr (wLrg (wX a).1))
  | .ixr i b => (wIxr i (wX b).1, wTr (wIxr i (wX b).1))
  | .pur a => (wPur (wX a).1, wPurT (wX a).2)
  | .cpr t i => (wCpr t i, wTr (wCpr t i))
  | .att c n i => (wAtt c n i, wTr (wAtt c n i))
  | .meth c m n wf o l => (wMeth c n wf (wX o).1 (wA l), wTr (wMeth c n wf (wX o).1 (wA l)))
  | .make c n wf l => (wMake c n wf (wA l), wTr (wMake c n wf (wA l)))
  | .gst x s => (wC (.str s), wTr (wC (.str s)))
  | .sm f o l => (wSm f (wX o).1 (wA l), wTr (wSm f (wX o).1 (wA l)))
  | .lc it g c e vs => (wLc (wI it) (wG g) (wCo c) (wX e).1 vs, wTr (wLc (wI it) (wG g) (wCo c) (wX e).1 vs))
  | .lcO i g c e vs => (wLcO i (wG g) (wCo c) (wX e).1 vs, wTr (wLcO i (wG g) (wCo c) (wX e).1 vs))
  | .xt x l => (x.w (wL l), wTr (x.w (wL l)))
def wA : PXs → WA
  | .nil => wNil
  | .cons a l => wCons (wX a).1 (wA l)
def wO : PXo → WP
  | .no => wNoP
  | .so a => wSoP (wX a).1
def wCo : PXo → WT
  | .no => wYes
  | .so a => (wX a).2
def wI : PXi → WI
  | .li a => wWalk false (wX a).1
  | .ti a => wWalk true (wX a).1
  | .r1 a => wR1 (wCons (wX a).1 wNil)
  | .r2 a b => wR2 (wCons (wX a).1 (wCons (wX b).1 wNil))
  | .r3 a b c => wR3 (wCons (wX a).1 (wCons (wX b).1 (wCons (wX c).1 wNil)))
  | .rev a => wRev (wX a).1
  | .enum a => fun ρ Q => wEnum (wX a).1 ρ fun ρ1 ds => (∀ s ∈ ds, s.1 ≠ .br) ∧ Q ρ1 ds
  | .lq a => wWalkB (wX a).1
  | .st a => wStr (wX a).1
  | .xt x l => x.w (wL l)
def wL : PXs → List WE
  | .nil => []
  | .cons a l => (wX a).1 :: wL l
end
/-! what the text itself must keep: classes below five, a comprehension s targets within its own slots -/
mutual
def okX : PX → Bool
  | .bin _ a b => okX a && okX b
  | .cmp _ a b => okX a && okX b
  | .chain _ _ a b c => okX a && okX b && okX c
  | .chain3 _ _ _ a b c d => okX a && okX b && okX c && okX d
  | .and a b => okX a && okX b
  | .or a b => okX a && okX b
  | .one a => okX a
  | .not a => okX a
  | .neg a => okX a
  | .ife c a b => okX c && okX a && okX b
  | .tup l => okA l
  | .lst l => okA l
  | .ix a b => okX a && okX b
  | .sl a lo hi => okX a && okO lo && okO hi
  | .cb f l => decide (f < 11) && okA l
  | .isi T a => decide (T < 5) && okX a
  | .call _ _ _ l => okA l
  | .callF _ _ _ l => okA l
  | .lrev a => okX a
  | .lrg a => okX a
  | .ixr _ b => okX b
  | .pur a => okX a
  | .att c n _ => decide (c.ns.Nodup) && decide (n < c.ns.length)
  | .meth c m _ _ o l => decide (m ∉ c.ns) && (okX o && okA l)
  | .make _ _ _ l => okA l
  | .sm f o l => decide (f < 5) && (okX o && okA l)
  | .lc it g c e vs => okI it && gIn vs g && okO c && okX e
  | .lcO _ g c e vs => gIn vs g && okO c && okX e
  | .xt _ l => okA l
  | _ => true
def okA : PXs → Bool
  | .nil => true
  | .cons a l => okX a && okA l
def okO : PXo → Bool
  | .no => true
  | .so a => okX a
def okI : PXi → Bool
  | .li a => okX a
  | .ti a => okX a
  | .r1 a => okX a
  | .r2 a b => okX a && okX b
  | .r3 a b c => okX a && okX b && okX c
  | .rev a => okX a
  | .enum a => okX a
  | .lq _ => false
  | .st a => okX a
  | .xt _ l => okA l
end
theorem lift_yes {K : PySem.W.Frag} : LiftT K tYes wYes := fun G H σ ρ L Q Qp ok s h q => q true H ρ ok s h
section
variable {K : PySem.W.Frag}
theorem with_tr {t : TE} {w : WE} (l : LiftE K t w) : LiftE K (t, tTru K t).1 (w, wTr w).1 ∧ LiftT K (t, tTru K t).2 (w, wTr w).2 := ⟨l, lift_tr l⟩
theorem with_b {t : TE} {w : WE} (l : LiftE K t w) : LiftE K (t, tTest t).1 (w, wB w).1 ∧ LiftT K (t, tTest t).2 (w, wB w).2 := ⟨l, lift_B l⟩
mutual
theorem liftX : ∀ p : PX, okX p = true → LiftE K (rd K p).1 (wX p).1 ∧ LiftT K (rd K p).2 (wX p).2
  | .var i, _ => with_tr (lift_var i)
  | .mv i, _ => with_tr (lift_mv i)
  | .fz i, _ => with_tr (lift_fz i)
  | .int n, _ => with_tr (lift_c fun _ => .int n)
  | .bl b, _ => with_tr (lift_c fun _ => .bl b)
  | .non, _ => with_tr (lift_c fun _ => .non)
  | .str s, _ => with_tr (lift_c fun _ => .str s)
  | .bin o a b, h => with_tr (lift_2 (lift_bop o) (liftX a (and2 h).1).1 (liftX b (and2 h).2).1)
  | .cmp o a b, h => with_b (lift_2 (lift_cop o) (liftX a (and2 h).1).1 (liftX b (and2 h).2).1)
  | .chain o o' a b c, h => with_b (lift_chain (lift_cop o) (lift_cop o') (liftX a (and2 (and2 h).1).1).1 (liftX b (and2 (and2 h).1).2).1 (liftX c (and2 h).2).1)
  | .chain3 o o' o2 a b c d, h => ⟨lift_chain3 (lift_cop o) (lift_cop o') (lift_cop o2) (liftX a (and2 (and2 (and2 h).1).1).1).1 (liftX b (and2 (and2 (and2 h).1).1).2).1 (liftX c (and2 (and2 h).1).2).1 (liftX d (and2 h).2).1, fun _ _ _ _ _ _ _ _ _ hf _ => hf.elim⟩
  | .and a b, h => ⟨lift_and (liftX a (and2 h).1).1 (liftX b (and2 h).2).1, lift_tand (liftX a (and2 h).1).2 (liftX b (and2 h).2).2⟩
  | .or a b, h => ⟨lift_or (liftX a (and2 h).1).1 (liftX b (and2 h).2).1, lift_tor (liftX a (and2 h).1).2 (liftX b (and2 h).2).2⟩
  | .one a, h => liftX a h
  | .not a, h => ⟨lift_not (liftX a h).1, lift_tnot (liftX a h).2⟩
  | .neg a, h => with_tr (lift_neg (liftX a h).1)
  | .ife c a b, h => ⟨lift_if (liftX c (and2 (and2 h).1).1).2 (liftX a (and2 (and2 h).1).2).1 (liftX b (and2 h).2).1, fun _ _ _ _ _ _ _ _ _ hf _ => hf.elim⟩
  | .tup l, h => with_tr (lift_tup (liftA l h))
  | .lst l, h => with_tr (lift_lst (liftA l h))
  | .ix a b, h => with_tr (lift_2 lift_ix (liftX a (and2 h).1).1 (liftX b (and2 h).2).1)
  | .sl a lo hi, h => with_tr (lift_sl (liftX a (and2 (and2 h).1).1).1 (liftO lo (and2 (and2 h).1).2) (liftO hi (and2 h).2))
  | .cb f l, h => with_tr (lift_cb (lift_cbF f) (liftA l (and2 h).2))
  | .isx rs cs _ i, _ => with_tr lift_isx
  | .isi T a, h => with_tr (lift_isi (of_decide_eq_true (and2 h).1) (liftX a (and2 h).2).1)
  | .call f n wf l, h => with_tr (lift_call (liftA l h))
  | .callF f n wf l, h => with_tr (lift_callF (liftA l h))
  | .lrev a, h => with_tr (lift_lrev (liftX a h).1)
  | .lrg a, h => with_tr (lift_lrg (liftX a h).1)
  | .ixr i b, h => with_tr (lift_ixr (liftX b h).1)
  | .pur a, h => ⟨lift_pur (liftX a h).1, lift_purT (liftX a h).2⟩
  | .cpr t i, _ => with_tr (lift_cpr t i fun p ys H Q hs hq => by
      cases t with
      | true => exact ⟨p, ys, rfl, .inl ⟨hs, hq⟩⟩
      | false => exact ⟨p, ys, rfl, .inl hs, hq⟩)
  | .att c n i, h => with_tr (lift_att (of_decide_eq_true (and2 h).1) (by
      have hn : n < c.ns.length := of_decide_eq_true (and2 h).2
      rw [List.getD_eq_getElem?_getD, List.getElem?_eq_getElem hn]; rfl))
  | .meth c m n wf o l, h => with_tr (lift_meth (of_decide_eq_true (and2 h).1) (liftX o (and2 (and2 h).2).1).1 (liftA l (and2 (and2 h).2).2))
  | .make c n wf l, h => with_tr (lift_make (liftA l h))
  | .gst x s, _ => with_tr (lift_c fun _ => .str s)
  | .sm f o l, h => with_tr (lift_sm (liftX o (and2 (and2 h).2).1).1 (liftA l (and2 (and2 h).2).2))
  | .lc it g c e vs, h => with_tr (lift_lc (liftI it (and2 (and2 (and2 h).1).1).1) (liftG g) (rdG_in g (and2 (and2 (and2 h).1).1).2) (rdG_mono g) (liftCo c (and2 (and2 h).1).2) (liftX e (and2 h).2).1)
  | .lcO i g c e vs, h => with_tr (lift_lcO (liftG g) (rdG_in g (and2 (and2 h).1).1) (rdG_mono g) (liftCo c (and2 (and2 h).1).2) (liftX e (and2 h).2).1)
  | .xt x l, h => with_tr (x.lift (liftL l h))
theorem liftA : ∀ l : PXs, okA l = true → LiftA K (rdA K l) (wA l)
  | .nil, _ => lift_nil
  | .cons a l, h => lift_cons (liftX a (and2 h).1).1 (liftA l (and2 h).2)
theorem liftO : ∀ o : PXo, okO o = true → LiftP K (rdO K o) (wO o)
  | .no, _ => lift_noP
  | .so a, h => lift_soP (liftX a h).1
theorem liftCo : ∀ o : PXo, okO o = true → LiftT K (rdC K o) (wCo o)
  | .no, _ => lift_yes
  | .so a, h => (liftX a h).2
theorem liftI : ∀ i : PXi, okI i = true → LiftI K (rdI K i) (wI i)
  | .li a, h => lift_iL (liftX a h).1
  | .ti a, h => lift_iT (liftX a h).1
  | .r1 a, h => lift_r1 (lift_cons (liftX a h).1 lift_nil)
  | .r2 a b, h => lift_r2 (lift_cons (liftX a (and2 h).1).1 (lift_cons (liftX b (and2 h).2).1 lift_nil))
  | .r3 a b c, h => lift_r3 (lift_cons (liftX a (and2 (and2 h).1).1).1 (lift_cons (liftX b (and2 (and2 h).1).2).1 (lift_cons (liftX c (and2 h).2).1 lift_nil)))
  | .rev a, h => lift_iRev (liftX a h).1
  | .enum a, h => lift_enum (liftX a h).1
  | .lq _, h => Bool.noConfusion h
  | .st a, h => lift_str (liftX a h).1
  | .xt x l, h => x.lift (liftL l h)
theorem liftL : ∀ l : PXs, okA l = true → All2 (LiftE K) (rdL K l) (wL l)
  | .nil, _ => .nil
  | .cons a l, h => .cons (liftX a (and2 h).1).1 (liftL l (and2 h).2)
end
def okIq : PXi → Bool
  | .lq a => okX a
  | _ => false
theorem liftIq : ∀ i : PXi, okIq i = true → LiftI0 K (rdI K i) (wI i)
  | .lq a, h => lift_iLB (liftX a h).1
  | .li _, h => Bool.noConfusion h
  | .ti _, h => Bool.noConfusion h
  | .r1 _, h => Bool.noConfusion h
  | .r2 _ _, h => Bool.noConfusion h
  | .r3 _ _ _, h => Bool.noConfusion h
  | .rev _, h => Bool.noConfusion h
  | .enum _, h => Bool.noConfusion h
  | .st _, h => Bool.noConfusion h
  | .xt _ _, h => Bool.noConfusion h
end
end PL
namespace PL
open PySem PySem.Spec L2

/-! ### facts about an expression's head -/
def bopM : BOp → Operator → Bool
  | .add, .Add => true | .sub, .Sub => true | .mul, .Mult => true | .div, .FloorDiv => true | .mod, .Mod => true | .pow, .Pow => true | .rep, .Mult => true
  | _, _ => false
theorem bopM_eq {o : BOp} {op : Operator} (h : bopM o op = true) : op = bopO o := by
  cases o <;> cases op <;> first | rfl | cases h
def copM : COp → CmpOp → Bool
  | .lt, .Lt => true | .le, .LtE => true | .gt, .Gt => true | .ge, .GtE => true | .eq, .Eq => true | .ne, .NotEq => true
  | .is, .Is => true | .isn, .IsNot => true | .inn, .In => true | .nin, .NotIn => true
  | _, _ => false
theorem copM_eq {o : COp} {op : CmpOp} (h : copM o op = true) : op = copO o := by
  cases o <;> cases op <;> first | rfl | cases h
section
variable (m : Mc)
mutual
def mtG (sc : Scope) : PGt → Expr → Bool
  | .nm i, e => match e with
    | .Name x _ => nmB m i x && locB sc x
    | _ => false
  | .tp l, e => match e with
    | .Tuple es _ _ => mtGs sc l es
    | _ => false
def mtGs (sc : Scope) : PGts → List Expr → Bool
  | .nil, es => match es with
    | [] => true
    | _ => false
  | .cons g l, es => match es with
    | e :: r => starN e && mtG sc g e && mtGs sc l r
    | _ => false
end
end
section
variable (m : Mc)
mutual
def mtX (sc : Scope) : PX → Expr → Bool
  | .var i, e => match e with
    | .Name x _ => nmB m i x && visB sc x && dbgB x
    | _ => false
  | .mv i, e => match e with
    | .Name x _ => nmB m i x && visB sc x && dbgB x
    | _ => false
  | .fz i, e => match e with
    | .Name x _ => nmB m i x && visB sc x && dbgB x
    | _ => false
  | .int n, e => match e with
    | .Constant (.int k) _ _ => decide (k = n)
    | _ => false
  | .bl b, e => match e with
    | .Constant (.bool k) _ _ => decide (k = b)
    | _ => false
  | .non, e => match e with
    | .Constant .none _ _ => true
    | _ => false
  | .str s, e => match e with
    | .Constant (.str k) _ _ => decide (k = s)
    | _ => false
  | .bin o a b, e => match e with
    | .BinOp x op y _ => bopM o op && mtX sc a x && mtX sc b y
    | _ => false
  | .cmp o a b, e => match e with
    | .Compare x [op] [y] _ => copM o op && !behindInMarks op y && mtX sc a x && mtX sc b y
    | _ => false
  | .chain o o' a b c, e => match e with
    | .Compare x [op, op'] [y, z] _ => copM o op && copM o' op' && !lastMarks [op, op'] [y, z] && mtX sc a x && mtX sc b y && mtX sc c z
    | _ => false
  | .chain3 o o' o2 a b c d, e => match e with
    | .Compare x [op, op', op2] [y, z, u] _ => copM o op && copM o' op' && copM o2 op2 && !lastMarks [op, op', op2] [y, z, u] && mtX sc a x && mtX sc b y && mtX sc c z && mtX sc d u
    | _ => false
  | .and a b, e => match e with
    | .BoolOp .And (x :: y :: r) pos => mtX sc a x && mtX sc b (.BoolOp .And (y :: r) pos)
    | _ => false
  | .or a b, e => match e with
    | .BoolOp .Or (x :: y :: r) pos => mtX sc a x && mtX sc b (.BoolOp .Or (y :: r) pos)
    | _ => false
  | .one a, e => match e with
    | .BoolOp _ [x] _ => mtX sc a x
    | _ => false
  | .not a, e => match e with
    | .UnaryOp .Not x _ => mtX sc a x
    | _ => false
  | .neg a, e => match e with
    | .UnaryOp .USub x _ => mtX sc a x
    | _ => false
  | .ife c a b, e => match e with
    | .IfExp z x y _ => mtX sc c z && mtX sc a x && mtX sc b y
    | _ => false
  | .tup l, e => match e with
    | .Tuple es _ _ => mtA sc l es
    | _ => false
  | .lst l, e => match e with
    | .List es _ => mtA sc l es
    | _ => false
  | .ix a b, e => match e with
    | .Subscript x y _ => ixOk y && mtX sc a x && mtX sc b y
    | _ => false
  | .sl a lo hi, e => match e with
    | .Subscript x (.Slice u v none _) _ => mtX sc a x && mtO sc lo u && mtO sc hi v
    | _ => false
  | .cb f l, e => match e with
    | .Call (.Name x _) (y :: ys) [] _ => (decide (f < 7) || decide (8 < f)) && (blB m sc (cbN f) x && starsN (y :: ys) && mtA sc l (y :: ys))
    | .Call (.Name x _) [y] [⟨nm, z, _⟩] _ => (decide (6 < f) && decide (f < 9)) && decide (nm = some "default") && (blB m sc (cbN f) x && starsN [y] && mtA sc l [y, z])
    | _ => false
  | .isx _ cs t i, e => mtIns m sc i e fun z => if t = true then (match z with
    | .Tuple es _ _ => decide (cs.length ≤ 100) && mtCls sc cs es
    | _ => false) else (match z with
    | .Name y _ => decide (cs = [y]) && gloB sc y && dbgB y
    | _ => false)
  | .isi T a, e => match e with
    | .Call (.Name x _) [y, .Name z _] [] _ => blB m sc "isinstance" x && blB m sc (isiN T) z && starN y && mtX sc a y
    | _ => false
  | .call f _ _ l, e => match e with
    | .Call (.Name x _) ys [] _ => decide (x = f) && gloB sc f && dbgB f && starsN ys && mtA sc l ys
    | _ => false
  | .callF f _ _ l, e => match e with
    | .Call (.Name x _) ys [] _ => decide (x = f) && gloB sc f && dbgB f && starsN ys && mtA sc l ys
    | _ => false
  | .pur a, e => mtX sc a e
  | .cpr t i, e => match e with
    | .Call (.Name x _) [.Name y _] [] _ => blB m sc (cbN (if t then 4 else 3)) x && (nmB m i y && visB sc y && dbgB y)
    | _ => false
  | .att c n i, e => match e with
    | .Attribute (.Name x _) f _ => (nmB m i x && visB sc x && dbgB x) && decide (f = c.ns.getD n "")
    | _ => false
  | .meth _ m' _ _ o l, e => match e with
    | .Call (.Attribute y z apos) ys [] cpos => (baseO y && decide (z = m') && starsN ys && ((apos.endLine == cpos.line) && decide (ys.length < 20))) && (mtX sc o y && mtA sc l ys)
    | _ => false
  | .make c _ _ l, e => match e with
    | .Call (.Name x _) ys [] _ => decide (x = c.nm) && gloB sc c.nm && dbgB c.nm && starsN ys && mtA sc l ys
    | _ => false
  | .gst x _, e => match e with
    | .Name y _ => decide (y = x) && gloB sc x && dbgB x
    | _ => false
  | .sm f o l, e => match e with
    | .Call (.Attribute y z apos) ys [] cpos => (decide (z = smN f) && (apos.endLine == cpos.line)) && (baseO y && starsN ys && decide (ys.length = smA f)) && (mtX sc o y && mtA sc l ys)
    | _ => false
  | .ixr i b, e => match e with
    | .Subscript (.Name x _) y _ => ixOk y && (nmB m i x && visB sc x && dbgB x) && mtX sc b y
    | _ => false
  | .lrg a, e => match e with
    | .Call (.Name x _) [.Call (.Name y _) [z] [] _] [] _ => blB m sc "list" x && blB m sc "range" y && starN z && mtX sc a z
    | _ => false
  | .lrev a, e => match e with
    | .Call (.Name x _) [.Call (.Name y _) [z] [] _] [] _ => blB m sc "list" x && blB m sc "reversed" y && starN z && mtX sc a z
    | _ => false
  | .lc it g c e0 vs, e => match e with
    | .ListComp z [⟨tg, iter, ifs, as⟩] scope _ => decide (as = 0) && setN iter && blkC m.N sc scope (ownOf m vs) && mtI sc it tg iter && mtG m scope g tg && mtC scope c ifs && mtX scope e0 z
    | _ => false
  | .lcO i g c e0 vs, e => match e with
    | .ListComp z [⟨tg, .Name x _, ifs, as⟩] scope _ => decide (as = 0) && blkC m.N sc scope (ownOf m vs) && (nmB m i x && visB sc x && dbgB x) && mtG m scope g tg && mtC scope c ifs && mtX scope e0 z
    | _ => false
  | .xt x l, e => match x.mt m sc e with
    | some es => mtL l es
    | none => false
def mtA (sc : Scope) : PXs → List Expr → Bool
  | .nil, es => match es with
    | [] => true
    | _ => false
  | .cons a l, es => match es with
    | e :: r => starN e && mtX sc a e && mtA sc l r
    | _ => false
def mtO (sc : Scope) : PXo → Option Expr → Bool
  | .no, e => match e with
    | none => true
    | _ => false
  | .so a, e => match e with
    | some e => mtX sc a e
    | _ => false
def mtC (sc : Scope) : PXo → List Expr → Bool
  | .no, e => match e with
    | [] => true
    | _ => false
  | .so a, e => match e with
    | [e] => mtX sc a e
    | _ => false
def mtI (sc : Scope) : PXi → Expr → Expr → Bool
  | .li a, _, e => mtX sc a e
  | .ti a, _, e => mtX sc a e
  | .lq a, _, e => mtX sc a e
  | .st a, _, e => mtX sc a e
  | .r1 a, _, e => match e with
    | .Call (.Name x _) [y] [] _ => blB m sc "range" x && starN y && mtX sc a y
    | _ => false
  | .r2 a b, _, e => match e with
    | .Call (.Name x _) [y, z] [] _ => blB m sc "range" x && starN y && starN z && mtX sc a y && mtX sc b z
    | _ => false
  | .r3 a b c, _, e => match e with
    | .Call (.Name x _) [y, z, t] [] _ => blB m sc "range" x && starN y && starN z && starN t && mtX sc a y && mtX sc b z && mtX sc c t
    | _ => false
  | .rev a, _, e => match e with
    | .Call (.Name x _) [y] [] _ => blB m sc "reversed" x && starN y && mtX sc a y
    | _ => false
  | .enum a, tg, e => match e with
    | .Call (.Name x _) [y] [] _ => blB m sc "enumerate" x && tupE tg && starN y && mtX sc a y
    | _ => false
  | .xt x l, tg, e => match x.mt m sc tg e with
    | some es => mtL l es
    | none => false
def mtL : PXs → List (Scope × Expr) → Bool
  | .nil, es => match es with
    | [] => true
    | _ => false
  | .cons a l, es => match es with
    | p :: r => mtX p.1 a p.2 && mtL l r
    | [] => false
end
end

/-! ### which calls a text makes -/
section
variable (R : CT → Str → Nat → WF → Prop)
mutual
def cOk : PX → Prop
  | .bin _ a b => cOk a ∧ cOk b
  | .cmp _ a b => cOk a ∧ cOk b
  | .chain _ _ a b c => cOk a ∧ cOk b ∧ cOk c
  | .chain3 _ _ _ a b c d => cOk a ∧ cOk b ∧ cOk c ∧ cOk d
  | .and a b => cOk a ∧ cOk b
  | .or a b => cOk a ∧ cOk b
  | .one a => cOk a
  | .not a => cOk a
  | .neg a => cOk a
  | .ife c a b => cOk c ∧ cOk a ∧ cOk b
  | .tup l => cAs l
  | .lst l => cAs l
  | .ix a b => cOk a ∧ cOk b
  | .sl a lo hi => cOk a ∧ cOo lo ∧ cOo hi
  | .cb _ l => cAs l
  | .isi _ a => cOk a
  | .isx rs cs _ _ => ∀ x ∈ rs, R (.er cs) x 0 (fun _ _ => False)
  | .call f n wf l => R .fn f n wf ∧ cAs l
  | .callF f n wf l => R .fz f n wf ∧ cAs l
  | .meth c m n wf o l => R (.mt c) m n wf ∧ cOk o ∧ cAs l
  | .make c n wf l => R (.mk c) c.nm n wf ∧ cAs l
  | .gst x s => R (.gs s) x 0 (fun _ _ => False)
  | .sm _ o l => cOk o ∧ cAs l
  | .lrev a => cOk a
  | .lrg a => cOk a
  | .ixr _ b => cOk b
  | .pur a => cOk a
  | .lc it _ c e _ => cIt it ∧ cOo c ∧ cOk e
  | .lcO _ _ c e _ => cOo c ∧ cOk e
  | .xt x l => (∀ c ∈ x.ct, R c.1 c.2.1 c.2.2.1 c.2.2.2) ∧ cAs l
  | _ => True
def cAs : PXs → Prop
  | .nil => True
  | .cons a l => cOk a ∧ cAs l
def cOo : PXo → Prop
  | .no => True
  | .so a => cOk a
def cIt : PXi → Prop
  | .li a => cOk a
  | .ti a => cOk a
  | .r1 a => cOk a
  | .r2 a b => cOk a ∧ cOk b
  | .r3 a b c => cOk a ∧ cOk b ∧ cOk c
  | .rev a => cOk a
  | .enum a => cOk a
  | .lq a => cOk a
  | .st a => cOk a
  | .xt _ l => cAs l
end
end

/-! ### soundness -/
theorem op_bop {X : Cx} : ∀ o, OpR X (binaryOp (bopO o)) (bopR X.K o)
  | .add => op_add.or (op_add_str.or (op_cat.or op_catT))
  | .sub => op_sub
  | .mul => op_mulX
  | .div => op_fdivW
  | .mod => op_mod
  | .pow => op_pow
  | .rep => op_repA
theorem op_cop {X : Cx} (hu : X.A.units + 65 < cLine) : ∀ o, OpR X (compareOp (copO o)) (copR X.K o)
  | .lt => op_lt
  | .le => op_le
  | .gt => op_gt
  | .ge => op_ge
  | .eq => op_eqD (by omega)
  | .ne => op_neD (by omega)
  | .is => op_isN.or op_isBl
  | .isn => op_notN.or op_notBl
  | .inn => op_in_str.or (op_inD hu)
  | .nin => op_notin_str.or (op_notInD hu)
section
variable {m : Mc}
mutual
theorem soundG {X : Cx} {sc : Scope} {j : Nat} (c : Cxt m sc j X) : ∀ (g : PGt) (e : Expr), mtG m sc g e = true → PG X e (rdG X.K g)
  | .nm i, e, h => by
    cases e <;> first | (cases h; done) | skip
    rename_i x p
    have h : (nmB m i x && locB sc x) = true := h
    exact pg_name (by rw [c.n]; exact c.nd) (c.nm (and2 h).1) (c.loc (and2 h).2).1 (c.loc (and2 h).2).2
  | .tp l, e, h => by
    cases e <;> first | (cases h; done) | skip
    rename_i es k p
    have h : mtGs m sc l es = true := h
    obtain ⟨h1, h2, h3⟩ := soundGs c l es h
    exact pg_sq c.calm h1 h2 h3
theorem soundGs {X : Cx} {sc : Scope} {j : Nat} (c : Cxt m sc j X) : ∀ (l : PGts) (es : List Expr), mtGs m sc l es = true → PGs X es (rdGs X.K l) ∧ (assignEach es X.env).length = gsLenOf l ∧ (assignEach es X.env).findIdx? (·.1) = none
  | .nil, es, h => by
    cases es <;> first | (cases h; done) | skip
    exact ⟨pgs_nil, rfl, rfl⟩
  | .cons g l, es, h => by
    cases es <;> first | (cases h; done) | skip
    rename_i e r
    have h : (starN e && mtG m sc g e && mtGs m sc l r) = true := h
    obtain ⟨h1, h2, h3⟩ := soundGs c l r (and2 h).2
    have a : assignEach (e :: r) X.env = (false, assign e X.env) :: assignEach r X.env := by
      have := (and2 (and2 h).1).1
      cases e <;> first | rfl | cases this
    refine ⟨pgs_cons (soundG c g e (and2 (and2 h).1).2) h1 (by rw [a]; rfl), by rw [a, List.length_cons, h2]; rfl, ?_⟩
    rw [a, List.findIdx?_cons, h3]; rfl
end
end
/-- as Cxt, without calm and room -/
structure Cxq (m : Mc) (sc : Scope) (X : Cx) : Prop where
  n : X.N = m.N
  nd : m.N.Nodup
  kn : ∀ x k, sc.names.lookup x = some k → X.env.scope.names.lookup x = some k ∨ (k = .free ∧ X.env.scope.names.lookup x = some .cell)
  fn : ∀ x, sc.names.lookup x = some .cell → X.fn x = true
  bn : ∀ x ∈ m.bn, X.mg x = none
section
variable {m : Mc} {sc : Scope} {j : Nat} {X : Cx}
theorem Cxt.q (c : Cxt m sc j X) : Cxq m sc X := ⟨c.n, c.nd, c.kn, c.fn, c.bn⟩
theorem Cxq.suite (c : Cxq m sc X) (a : Addr) (pn : List (Addr × Obj)) : Cxq m sc (X.suite a pn) := ⟨c.n, c.nd, c.kn, c.fn, c.bn⟩
theorem Cxq.nm (c : Cxq m sc X) {i : Nat} {x : Str} (h : nmB m i x = true) : X.N[i]? = some x := by rw [c.n]; exact of_decide_eq_true h
theorem Cxq.vis (c : Cxq m sc X) {x : Str} (h : visB sc x = true) : Vis X.env.scope x := by
  unfold visB lk at h
  split at h
  · rename_i e; rcases c.kn _ _ e with q | ⟨q, _⟩
    · exact .inl q
    · cases q
  · rename_i e; rcases c.kn _ _ e with q | ⟨q, _⟩
    · exact .inr (.inl q)
    · cases q
  · rename_i e; rcases c.kn _ _ e with q | ⟨_, q⟩
    · exact .inr (.inr q)
    · exact .inr (.inl q)
  · cases h
theorem Cxq.loc (c : Cxq m sc X) {x : Str} (h : locB sc x = true) : Loc X.env.scope x ∧ (X.fn x = true ∨ X.env.scope.names.lookup x = some .local) := by
  unfold locB lk at h
  split at h
  · rename_i e; rcases c.kn _ _ e with q | ⟨q, _⟩
    · exact ⟨.inl q, .inr q⟩
    · cases q
  · rename_i e; rcases c.kn _ _ e with q | ⟨q, _⟩
    · exact ⟨.inr q, .inl (c.fn _ e)⟩
    · cases q
  · cases h
theorem Cxq.glo (c : Cxq m sc X) {x : Str} (h : gloB sc x = true) : Gl X x := by
  unfold gloB lk at h
  split at h
  · rename_i e; rcases c.kn _ _ e with q | ⟨q, _⟩
    · exact q
    · cases q
  · cases h
theorem Cxq.bl (c : Cxq m sc X) {f x : Str} (h : blB m sc f x = true) : x = f ∧ Gl X f ∧ X.mg f = none :=
  ⟨of_decide_eq_true (and2 (and2 h).1).1, c.glo (and2 h).2, c.bn _ (strB_mem (and2 (and2 h).1).2)⟩
theorem vr_of (c : Cxq m sc X) {i : Nat} {e : Expr} (h : mtVr m sc i e = true) : PE X e (tVar i) := by
  unfold mtVr at h
  split at h
  · exact pe_var (c.nm (and2 (and2 h).1).1) (c.vis (and2 (and2 h).1).2) (dbg1 (and2 h).2) (dbg2 (and2 h).2)
  · exact ff h
theorem kitAny_of {K : PySem.W.Frag} {C : Value} {x : Str} : ∀ {cs : List Str} {us : List Value}, Paired (fun c u => PySem.W.kitOne K C u = some (sub x c)) cs us → PySem.W.kitAny K C us = some (cs.any (sub x))
  | _, _, .nil => rfl
  | _, _, @Paired.cons _ _ _ c u _ _ h t => by
    have ih := kitAny_of t
    show (match PySem.W.kitOne K C u with
      | some true => some true
      | some false => PySem.W.kitAny K C _
      | none => none) = some (sub x c || _)
    rw [h]
    cases q : sub x c with
    | true => rfl
    | false => rw [Bool.false_or]; exact ih
/-- the class names as values -/
theorem cls_pa (c : Cxq m sc X) {C : Value} {x : Str} : ∀ {cs : List Str} {es : List Expr}, mtCls sc cs es = true → (∀ c ∈ cs, ∃ (v : V) (u : Value), ClsV v u ∧ (X.mg c = some u ∨ (X.mg c = none ∧ bootBuiltins c = some u ∧ c ≠ "__name__")) ∧ PySem.W.kitOne X.K C u = some (sub x c)) →
    ∃ (vs : List V) (us : List Value), Paired ClsV vs us ∧ Paired (fun c u => PySem.W.kitOne X.K C u = some (sub x c)) cs us ∧ vs.length = cs.length ∧ PA X es (fun _ H Q => Q vs H)
  | [], es, h, _ => by
    cases es <;> first | exact ff h | skip
    exact ⟨[], [], .nil, .nil, rfl, ⟨fun pos pins s σ H Q I q => pa_nil.run pos pins s σ H Q I q⟩⟩
  | k :: cs, es, h, hf => by
    rcases es with _ | ⟨e, r⟩
    · exact ff h
    cases e <;> first | exact ff h | skip
    rename_i y py
    have h : (decide (y = k) && gloB sc k && dbgB k && mtCls sc cs r) = true := h
    have g := and2 h
    have g1 := and2 g.1
    have g2 := and2 g1.1
    have e1 := of_decide_eq_true g2.1
    subst e1
    obtain ⟨v, u, cv, hm, hk⟩ := hf y List.mem_cons_self
    obtain ⟨vs, us, h1, h2, h3, h4⟩ := cls_pa c g.2 fun c hc => hf c (List.mem_cons_of_mem _ hc)
    have pe : PE X (.Name y py) (L2.tC v) := by
      have rv : RelV v u := by cases cv <;> rfl
      rcases hm with hm | ⟨hm, hb, hn⟩
      · exact pe_glob (c.glo g2.2) hm rv (dbg1 g1.2)
      · exact pe_bltn (c.glo g2.2) hm hb rv hn (dbg1 g1.2)
    have pa := pa_cons pe h4 (by rfl)
    exact ⟨v :: vs, u :: us, .cons cv h1, .cons hk h2, by simp [h3], pa⟩
theorem mtIns_of {i : Nat} {e : Expr} {k : Expr → Bool} (h : mtIns m sc i e k = true) : ∃ f fp y z pos, e = .Call (.Name f fp) [y, z] [] pos ∧ blB m sc "isinstance" f = true ∧ mtVr m sc i y = true ∧ starN z = true ∧ k z = true := by
  unfold mtIns at h
  split at h
  · exact ⟨_, _, _, _, _, rfl, (and2 (and2 (and2 h).1).1).1, (and2 (and2 (and2 h).1).1).2, (and2 (and2 h).1).2, (and2 h).2⟩
  · exact Bool.noConfusion h
theorem ins_x (c : Cxq m sc X) {rs cs : List Str} {i : Nat} {y z : Expr} {fx : Str} {fp pos : Pos} (hf : blB m sc "isinstance" fx = true) (hy : mtVr m sc i y = true) (hz : starN z = true)
    (hk : ∀ (C : Addr) (x : Str), (∀ c ∈ cs, ∃ (v : V) (u : Value), ClsV v u ∧ (X.mg c = some u ∨ (X.mg c = none ∧ bootBuiltins c = some u ∧ c ≠ "__name__")) ∧ PySem.W.kitOne X.K (.ref C) u = some (sub x c)) → ∀ a : Addr,
      ∃ tz : TE, PE X z tz ∧ ∀ σ H Q, H a = some (XO a (.ref C) none) → (∀ H', L2.Same H H' → Q (.bl (cs.any (sub x))) H') → tz σ H fun v H1 => rKx X.K C a [.ref a, v] H1 Q)
    (he : ∀ x ∈ rs, ErrX X.K X.mg x cs) : PE X (.Call (.Name fx fp) [y, z] [] pos) (tIsx X.K rs cs i) := by
  obtain ⟨e1, hg, hm⟩ := c.bl hf
  subst e1
  refine ⟨fun pins s σ H Q I h => ?_⟩
  obtain ⟨a, C, x, h1, h2, h3, hx, hq⟩ := h
  obtain ⟨C', hC, hcs⟩ := (he x hx).ex
  rw [h3.at_] at hC
  cases hC
  obtain ⟨tz, pz, lz⟩ := hk C x hcs a
  have st : starN y = true := by
    unfold mtVr at hy
    split at hy
    · rfl
    · exact Bool.noConfusion hy
  have p := pe_callB (pos := pos) (p := fp) (call_kx (a := a) h3.ec) hg hm PyProof.Rows.boot_isinstance (pa_cons (vr_of c hy) (pa_cons pz pa_nil (star_of hz)) (star_of st)) (by decide) (by decide) (star_of st) (by rw [star_of hz]; rfl)
  exact p.run pins s σ H Q I ⟨_, h1, lz σ H Q h2 hq⟩
theorem isx_of (c : Cxq m sc X) {rs cs : List Str} {t : Bool} {i : Nat} {e : Expr} (h : (mtIns m sc i e fun z => if t = true then (match z with
    | .Tuple es _ _ => decide (cs.length ≤ 100) && mtCls sc cs es
    | _ => false) else (match z with
    | .Name y _ => decide (cs = [y]) && gloB sc y && dbgB y
    | _ => false)) = true) (he : ∀ x ∈ rs, ErrX X.K X.mg x cs) : PE X e (tIsx X.K rs cs i) ∧ truN e = true ∧ isBop e = false := by
  obtain ⟨f, fp, y, z, pos, rfl, hf, hy, hz, hk⟩ := mtIns_of h
  refine ⟨ins_x c hf hy hz (fun C x hcs a => ?_) he, rfl, rfl⟩
  cases t with
  | true =>
    cases z <;> first | exact Bool.noConfusion hk | skip
    rename_i es kk py
    have g := and2 hk
    have hl := of_decide_eq_true g.1
    obtain ⟨vs, us, h1, h2, h3, h4⟩ := cls_pa c (C := .ref C) (x := x) g.2 hcs
    refine ⟨_, pe_tup h4, fun σ H Q q1 q2 => ⟨by rw [h3]; have := sizeLine_eq; omega, fun p hp => ?_⟩⟩
    have sm : L2.Same H (upd H p (.tup vs)) := same_upd hp
    exact ⟨sm _ _ q1, cs.any (sub x), .inr ⟨p, vs, us, rfl, upd_same, h1, kitAny_of h2⟩, q2 _ sm⟩
  | false =>
    cases z <;> first | exact Bool.noConfusion hk | skip
    rename_i y py
    have g := and2 hk
    have g1 := and2 g.1
    have e1 := of_decide_eq_true g1.1
    subst e1
    obtain ⟨v, u, cv, hm, hk⟩ := hcs y List.mem_cons_self
    have rv : RelV v u := by cases cv <;> rfl
    refine ⟨L2.tC v, ?_, fun σ H Q h1 h2 => ⟨h1, sub x y, .inl ⟨v, u, rfl, cv, hk⟩, ?_⟩⟩
    · rcases hm with hm | ⟨hm, hb, hn⟩
      · exact pe_glob (c.glo g1.2) hm rv (dbg1 g.2)
      · exact pe_bltn (c.glo g1.2) hm hb rv hn (dbg1 g.2)
    · have q := h2 H (L2.Same.refl H)
      simpa using q
end
end PL
namespace PL
open PySem PySem.Spec L2

def Res (X : Cx) (e : Expr) (r : TE × TT) : Prop := PE X e r.1 ∧ PT X e r.2 ∧ (isBop e = true → PW X e r.2)
section
variable {X : Cx} {e : Expr} {t : TE}
theorem res_tr (h : PE X e t) (ht : truN e = true) : Res X e (t, tTru X.K t) :=
  ⟨h, pt_truth h (tru_of ht), fun z => by cases e <;> first | exact ff z | exact ff ht⟩
theorem res_n {r : TE × TT} (h : PE X e r.1) (ht : PT X e r.2) (hb : isBop e = false) : Res X e r := ⟨h, ht, fun z => by rw [hb] at z; exact ff z⟩
theorem res_w {r : TE × TT} (h : PE X e r.1) (ht : PW X e r.2) : Res X e r := ⟨h, ht.pt, fun _ => ht⟩
end
theorem isi_boot : ∀ T : Nat, bootBuiltins (isiN T) = some (.type (isiT T))
  | 0 => by decide +kernel
  | 1 => by decide +kernel
  | 2 => by decide +kernel
  | 3 => by decide +kernel
  | _ + 4 => (by decide +kernel : bootBuiltins "str" = some (.type "str"))
theorem isi_nn : ∀ T : Nat, isiN T ≠ "__name__"
  | 0 => by decide
  | 1 => by decide
  | 2 => by decide
  | 3 => by decide
  | _ + 4 => (by decide : ("str" : Str) ≠ "__name__")
theorem isi_dd : ∀ T : Nat, (isiN T == ("__debug__" : Str)) = false
  | 0 => by decide
  | 1 => by decide
  | 2 => by decide
  | 3 => by decide
  | _ + 4 => (by decide : (("str" : Str) == ("__debug__" : Str)) = false)
theorem pe_cbF {X : Cx} (hc : X.calm = true) (hu : X.A.units + 65 < cLine) : ∀ (f : Nat) {p pos : Pos} {e : Expr} {es : List Expr} {t : TA}, (f < 7 ∨ 8 < f) → Gl X (cbN f) → X.mg (cbN f) = none → PA X (e :: es) t →
    starEach (e :: es) X.env = (false, eval e X.env) :: starEach es X.env → (backTo pos (starEach es X.env)).any (·.1) = false → PE X (.Call (.Name (cbN f) p) (e :: es) [] pos) (tCB (cbR X.K f) t)
  | 0, _, _, _, _, _, _, hg, hm, pa, he, hp => pe_callB call_len hg hm PySem.boot_len pa (by decide) (by decide) he hp
  | 1, _, _, _, _, _, _, hg, hm, pa, he, hp => pe_callB (((call_max2 hc).or (cr_max hc)).or (call_mx3 hc)) hg hm (by decide +kernel) pa (by decide) (by decide) he hp
  | 2, _, _, _, _, _, _, hg, hm, pa, he, hp => pe_callB ((call_min2 hc).or (cr_min hc)) hg hm (by decide +kernel) pa (by decide) (by decide) he hp
  | 3, _, _, _, _, _, _, hg, hm, pa, he, hp => pe_callTy call_list_of hg hm (by decide +kernel) pa (by decide) (by decide) he hp
  | 5, _, _, _, _, _, _, hg, hm, pa, he, hp => pe_callB (cr_sortT hu) hg hm (by decide +kernel) pa (by decide) (by decide) he hp
  | 6, _, _, _, _, _, _, hg, hm, pa, he, hp => pe_callTy (x := "int") (call_int1.or call_int_str) hg hm (by decide +kernel) pa (by decide) (by decide) he hp
  | 4, _, _, _, _, _, _, hg, hm, pa, he, hp => pe_callTy (x := "tuple") call_tuple_of hg hm (by decide +kernel) pa (by decide) (by decide) he hp
  | 7, _, _, _, _, _, hf, _, _, _, _, _ => absurd hf (by omega)
  | 8, _, _, _, _, _, hf, _, _, _, _, _ => absurd hf (by omega)
  | 9, _, _, _, _, _, _, hg, hm, pa, he, hp => pe_callTy (x := "str") call_str_int hg hm (by decide +kernel) pa (by decide) (by decide) he hp
  | _ + 10, _, _, _, _, _, _, hg, hm, pa, he, hp => pe_callB (x := "sum") (cr_sum hc) hg hm (by decide +kernel) pa (by decide) (by decide) he hp
theorem pe_cbK {X : Cx} (hc : X.calm = true) (hu : X.A.units + 65 < cLine) : ∀ (f : Nat) {p pos kp : Pos} {y z : Expr} {ta tz : TE}, (6 < f ∧ f < 9) → Gl X (cbN f) → X.mg (cbN f) = none → PE X y ta → PE X z tz →
    starEach [y] X.env = (false, eval y X.env) :: starEach [] X.env → PE X (.Call (.Name (cbN f) p) [y] [⟨some "default", z, kp⟩] pos) (tCB (cbR X.K f) (tCons ta (tCons tz tNil)))
  | 7, p, pos, kp, y, z, ta, tz, _, hg, hm, ha, hz, he => by
    show PE X _ (tCKw (r1K (rMnd X.K)) (tCons ta tNil) (tCons tz tNil))
    exact pe_callBK (x := "min") (call_mnd hc hu) hg hm (by decide +kernel) (pa_cons ha pa_nil he) (pk_cons hz pk_nil) (by decide) (by decide) (by rw [he]; rfl) (by rw [he]; rfl) rfl rfl rfl
  | 8, p, pos, kp, y, z, ta, tz, _, hg, hm, ha, hz, he => by
    show PE X _ (tCKw (r1K (rMxd X.K)) (tCons ta tNil) (tCons tz tNil))
    exact pe_callBK (x := "max") (call_mxd hc hu) hg hm (by decide +kernel) (pa_cons ha pa_nil he) (pk_cons hz pk_nil) (by decide) (by decide) (by rw [he]; rfl) (by rw [he]; rfl) rfl rfl rfl
  | _ + 9, _, _, _, _, _, _, _, hf, _, _, _, _, _ => absurd hf (by omega)
  | 0, _, _, _, _, _, _, _, hf, _, _, _, _, _ => absurd hf (by omega)
  | 1, _, _, _, _, _, _, _, hf, _, _, _, _, _ => absurd hf (by omega)
  | 2, _, _, _, _, _, _, _, hf, _, _, _, _, _ => absurd hf (by omega)
  | 3, _, _, _, _, _, _, _, hf, _, _, _, _, _ => absurd hf (by omega)
  | 4, _, _, _, _, _, _, _, hf, _, _, _, _, _ => absurd hf (by omega)
  | 5, _, _, _, _, _, _, _, hf, _, _, _, _, _ => absurd hf (by omega)
  | 6, _, _, _, _, _, _, _, hf, _, _, _, _, _ => absurd hf (by omega)
def hdP (X : Cx) : PXs → List Expr → Prop
  | .cons a _, y :: _ => PE X y (rd X.K a).1
  | _, _ => True
def sdP (X : Cx) : PXs → List Expr → Prop
  | .cons _ l, _ :: r => hdP X l r
  | _, _ => True
theorem pt_no {X : Cx} {e : Expr} : PT X e fun _ _ _ => False := ⟨fun _ _ _ _ _ _ h => h.elim⟩
section
variable {m : Mc} {j : Nat}
mutual
theorem soundX : ∀ (p : PX) {X : Cx} {sc : Scope} (c : Cxt m sc j X) (e : Expr), mtX m sc p e = true → cOk (CalR j X) p → Res X e (rd X.K p)
  | .var i, X, sc, c, e, h, _ => by
    cases e <;> first | exact ff h | skip
    rename_i x p
    have h : (nmB m i x && visB sc x && dbgB x) = true := h
    exact res_tr (pe_var (c.nm (and2 (and2 h).1).1) (c.vis (and2 (and2 h).1).2) (dbg1 (and2 h).2) (dbg2 (and2 h).2)) rfl
  | .mv i, X, sc, c, e, h, _ => by
    cases e <;> first | exact ff h | skip
    rename_i x p
    have h : (nmB m i x && visB sc x && dbgB x) = true := h
    exact res_tr (pe_var (c.nm (and2 (and2 h).1).1) (c.vis (and2 (and2 h).1).2) (dbg1 (and2 h).2) (dbg2 (and2 h).2)) rfl
  | .fz i, X, sc, c, e, h, _ => by
    cases e <;> first | exact ff h | skip
    rename_i x p
    have h : (nmB m i x && visB sc x && dbgB x) = true := h
    exact res_tr (pe_var (c.nm (and2 (and2 h).1).1) (c.vis (and2 (and2 h).1).2) (dbg1 (and2 h).2) (dbg2 (and2 h).2)) rfl
  | .int n, X, sc, c, e, h, _ => by
    cases e <;> first | exact ff h | skip
    rename_i v k p
    cases v <;> first | exact ff h | skip
    rename_i z
    have h : decide (z = n) = true := h
    have h := of_decide_eq_true h
    subst h
    exact res_tr pe_int rfl
  | .bl n, X, sc, c, e, h, _ => by
    cases e <;> first | exact ff h | skip
    rename_i v k p
    cases v <;> first | exact ff h | skip
    rename_i z
    have h : decide (z = n) = true := h
    have h := of_decide_eq_true h
    subst h
    exact res_tr pe_bl rfl
  | .non, X, sc, c, e, h, _ => by
    cases e <;> first | exact ff h | skip
    rename_i v k p
    cases v <;> first | exact ff h | skip
    exact res_tr pe_non rfl
  | .str n, X, sc, c, e, h, _ => by
    cases e <;> first | exact ff h | skip
    rename_i v k p
    cases v <;> first | exact ff h | skip
    rename_i z
    have h : decide (z = n) = true := h
    have h := of_decide_eq_true h
    subst h
    exact res_tr pe_str rfl
  | .bin o a b, X, sc, c, e, h, k => by
    cases e <;> first | exact ff h | skip
    rename_i x op y p
    have h : (bopM o op && mtX m sc a x && mtX m sc b y) = true := h
    have ho := bopM_eq (and2 (and2 h).1).1
    subst ho
    exact res_tr (pe_op (op_bop o) (soundX a c x (and2 (and2 h).1).2 k.1).1 (soundX b c y (and2 h).2 k.2).1) rfl
  | .cmp o a b, X, sc, c, e, h, k => by
    cases e <;> first | exact ff h | skip
    rename_i x ops ys p
    rcases ops with _ | ⟨op, _ | ⟨_, _⟩⟩ <;> rcases ys with _ | ⟨y, _ | ⟨_, _⟩⟩ <;> first | exact ff h | skip
    have h : (copM o op && !behindInMarks op y && mtX m sc a x && mtX m sc b y) = true := h
    have hm := not_t (and2 (and2 (and2 h).1).1).2
    have ho := copM_eq (and2 (and2 (and2 h).1).1).1
    subst ho
    have hu : X.A.units + 65 < cLine := by have := c.room.un; omega
    have ha := (soundX a c x (and2 (and2 h).1).2 k.1).1
    have hb := (soundX b c y (and2 h).2 k.2).1
    exact res_n (pe_cmpR (op_cop hu o) ha hb hm) (pt_cmpR (op_cop hu o) ha hb hm) rfl
  | .chain o o' a b d, X, sc, c, e, h, k => by
    cases e <;> first | exact ff h | skip
    rename_i x ops ys p
    rcases ops with _ | ⟨op, _ | ⟨op', _ | ⟨_, _⟩⟩⟩ <;> rcases ys with _ | ⟨y, _ | ⟨z, _ | ⟨_, _⟩⟩⟩ <;> first | exact ff h | skip
    have h : (copM o op && copM o' op' && !lastMarks [op, op'] [y, z] && mtX m sc a x && mtX m sc b y && mtX m sc d z) = true := h
    have hm := not_t (and2 (and2 (and2 (and2 h).1).1).1).2
    have ho := copM_eq (and2 (and2 (and2 (and2 (and2 h).1).1).1).1).1
    have ho' := copM_eq (and2 (and2 (and2 (and2 (and2 h).1).1).1).1).2
    subst ho ho'
    have hu : X.A.units + 65 < cLine := by have := c.room.un; omega
    have ha := (soundX a c x (and2 (and2 (and2 h).1).1).2 k.1).1
    have hb := (soundX b c y (and2 (and2 h).1).2 k.2.1).1
    have hd := (soundX d c z (and2 h).2 k.2.2).1
    exact res_n (pe_chain (op_cop hu o) (op_cop hu o') ha hb hd hm) (pt_chain (op_cop hu o) (op_cop hu o') ha hb hd hm) rfl
  | .chain3 o o' o2 a b d f, X, sc, c, e, h, k => by
    cases e <;> first | exact ff h | skip
    rename_i x ops ys p
    rcases ops with _ | ⟨op, _ | ⟨op', _ | ⟨op2, _ | ⟨_, _⟩⟩⟩⟩ <;> rcases ys with _ | ⟨y, _ | ⟨z, _ | ⟨u, _ | ⟨_, _⟩⟩⟩⟩ <;> first | exact ff h | skip
    have h : (copM o op && copM o' op' && copM o2 op2 && !lastMarks [op, op', op2] [y, z, u] && mtX m sc a x && mtX m sc b y && mtX m sc d z && mtX m sc f u) = true := h
    have g1 := and2 h
    have g2 := and2 g1.1
    have g3 := and2 g2.1
    have g4 := and2 g3.1
    have g5 := and2 g4.1
    have g6 := and2 g5.1
    have hm := not_t g5.2
    have ho := copM_eq (and2 g6.1).1
    have ho' := copM_eq (and2 g6.1).2
    have ho2 := copM_eq g6.2
    subst ho ho' ho2
    have hu : X.A.units + 65 < cLine := by have := c.room.un; omega
    exact res_n (pe_chain3 (op_cop hu o) (op_cop hu o') (op_cop hu o2) (soundX a c x g4.2 k.1).1 (soundX b c y g3.2 k.2.1).1 (soundX d c z g2.2 k.2.2.1).1 (soundX f c u g1.2 k.2.2.2).1 hm) pt_no rfl
  | .and a b, X, sc, c, e, h, k => by
    cases e <;> first | exact ff h | skip
    rename_i op vs p
    cases op <;> rcases vs with _ | ⟨x, _ | ⟨y, r⟩⟩ <;> first | exact ff h | skip
    have h : (mtX m sc a x && mtX m sc b (.BoolOp .And (y :: r) p)) = true := h
    have ha := soundX a c x (and2 h).1 k.1
    have hb := soundX b c _ (and2 h).2 k.2
    exact res_w (pe_and ha.1 hb.1) (pw_and ha.2.1 (hb.2.2 rfl))
  | .or a b, X, sc, c, e, h, k => by
    cases e <;> first | exact ff h | skip
    rename_i op vs p
    cases op <;> rcases vs with _ | ⟨x, _ | ⟨y, r⟩⟩ <;> first | exact ff h | skip
    have h : (mtX m sc a x && mtX m sc b (.BoolOp .Or (y :: r) p)) = true := h
    have ha := soundX a c x (and2 h).1 k.1
    have hb := soundX b c _ (and2 h).2 k.2
    exact res_w (pe_or ha.1 hb.1) (pw_or ha.2.1 (hb.2.2 rfl))
  | .one a, X, sc, c, e, h, k => by
    cases e <;> first | exact ff h | skip
    rename_i op vs p
    rcases vs with _ | ⟨x, _ | ⟨y, r⟩⟩ <;> first | exact ff h | skip
    have h : mtX m sc a x = true := h
    have ha := soundX a c x h k
    cases op
    · exact res_w (pe_one ha.1) (pw_and1 ha.2.1)
    · exact res_w (pe_one ha.1) (pw_or1 ha.2.1)
  | .not a, X, sc, c, e, h, k => by
    cases e <;> first | exact ff h | skip
    rename_i op x p
    cases op <;> first | exact ff h | skip
    have h : mtX m sc a x = true := h
    have ha := soundX a c x h k
    exact res_n (pe_not ha.1) (pt_not ha.2.1) rfl
  | .neg a, X, sc, c, e, h, k => by
    cases e <;> first | exact ff h | skip
    rename_i op x p
    cases op <;> first | exact ff h | skip
    have h : mtX m sc a x = true := h
    have ha := soundX a c x h k
    exact res_tr (pe_un un_neg ha.1) rfl
  | .ife d a b, X, sc, c, e, h, k => by
    cases e <;> first | exact ff h | skip
    rename_i z x y p
    have h : (mtX m sc d z && mtX m sc a x && mtX m sc b y) = true := h
    exact res_n (pe_ifExp (soundX d c z (and2 (and2 h).1).1 k.1).2.1 (soundX a c x (and2 (and2 h).1).2 k.2.1).1 (soundX b c y (and2 h).2 k.2.2).1) pt_no rfl
  | .tup l, X, sc, c, e, h, k => by
    cases e <;> first | exact ff h | skip
    rename_i es n p
    have h : mtA m sc l es = true := h
    exact res_tr (pe_tup (soundA l c es h k).1) rfl
  | .lst l, X, sc, c, e, h, k => by
    cases e <;> first | exact ff h | skip
    rename_i es p
    have h : mtA m sc l es = true := h
    exact res_tr (pe_lst (soundA l c es h k).1) rfl
  | .ix a b, X, sc, c, e, h, k => by
    cases e <;> first | exact ff h | skip
    rename_i x y p
    have h : (ixOk y && mtX m sc a x && mtX m sc b y) = true := by
      cases y <;> exact h
    exact res_tr (pe_ix ix_seq (soundX a c x (and2 (and2 h).1).2 k.1).1 (soundX b c y (and2 h).2 k.2).1 (ix_of (and2 (and2 h).1).1)) rfl
  | .sl a lo hi, X, sc, c, e, h, k => by
    cases e <;> first | exact ff h | skip
    rename_i x y p
    cases y <;> first | exact ff h | skip
    rename_i u v z p2
    cases z <;> first | exact ff h | skip
    have h : (mtX m sc a x && mtO m sc lo u && mtO m sc hi v) = true := h
    exact res_tr (pe_slice ((sl_list.or sl_str).or sl_tup) (soundX a c x (and2 (and2 h).1).1 k.1).1 (soundO lo c u (and2 (and2 h).1).2 k.2.1) (soundO hi c v (and2 h).2 k.2.2)) rfl
  | .cb f l, X, sc, c, e, h, k => by
    cases e <;> first | exact ff h | skip
    rename_i fn args kws p
    cases fn <;> first | exact ff h | skip
    rename_i x px
    have hu : X.A.units + 65 < cLine := by have := c.room.un; omega
    rcases args with _ | ⟨y, ys⟩
    · rcases kws with _ | ⟨_, _⟩ <;> exact ff h
    · rcases kws with _ | ⟨⟨nm, z, kp⟩, kws⟩
      · have h : ((decide (f < 7) || decide (8 < f)) && (blB m sc (cbN f) x && starsN (y :: ys) && mtA m sc l (y :: ys))) = true := by
          cases ys <;> exact h
        have hf : f < 7 ∨ 8 < f := ((Bool.or_eq_true _ _).mp (and2 h).1).imp of_decide_eq_true of_decide_eq_true
        have h := (and2 h).2
        obtain ⟨e1, g1, m1⟩ := c.bl (and2 (and2 h).1).1
        subst e1
        have st := and2 (and2 (and2 h).1).2
        exact res_tr (pe_cbF c.calm hu f hf g1 m1 (soundA l c (y :: ys) (and2 h).2 k).1 (star_of st.1) (stars_plain st.2)) rfl
      · rcases ys with _ | ⟨y2, ys⟩
        · rcases kws with _ | ⟨_, _⟩
          · have h : ((decide (6 < f) && decide (f < 9)) && decide (nm = some "default") && (blB m sc (cbN f) x && starsN [y] && mtA m sc l [y, z])) = true := h
            have hf : 6 < f ∧ f < 9 := (and2 (and2 (and2 h).1).1).imp of_decide_eq_true of_decide_eq_true
            have hn := of_decide_eq_true (and2 (and2 h).1).2
            have h2 := (and2 h).2
            clear h
            subst hn
            obtain ⟨e1, g1, m1⟩ := c.bl (and2 (and2 h2).1).1
            subst e1
            have st := and2 (and2 (and2 h2).1).2
            obtain ⟨_, _, pa, pz⟩ := soundA l c [y, z] (and2 h2).2 k
            have hm := (and2 h2).2
            rcases l with _ | ⟨a, _ | ⟨b, _ | ⟨_, _⟩⟩⟩
            · exact ff hm
            · exact ff (and2 hm).2
            · exact res_tr (pe_cbK c.calm hu f hf g1 m1 pa pz (star_of st.1)) rfl
            · exact ff (and2 (and2 hm).2).2
          · exact ff h
        · rcases kws with _ | ⟨_, _⟩ <;> exact ff h
  | .isi T a, X, sc, c, e, h, k => by
    cases e <;> first | exact ff h | skip
    rename_i fn args kws p
    cases fn <;> first | exact ff h | skip
    rename_i x px
    rcases args with _ | ⟨y, _ | ⟨w, r⟩⟩ <;> first | exact ff h | skip
    cases w <;> first | exact ff h | skip
    rename_i z pz
    rcases r with _ | ⟨_, _⟩ <;> rcases kws with _ | ⟨_, _⟩ <;> first | exact ff h | skip
    have h : (blB m sc "isinstance" x && blB m sc (isiN T) z && starN y && mtX m sc a y) = true := h
    obtain ⟨e1, g1, m1⟩ := c.bl (and2 (and2 (and2 h).1).1).1
    obtain ⟨e2, g2, m2⟩ := c.bl (and2 (and2 (and2 h).1).1).2
    subst e1 e2
    have st := (and2 (and2 h).1).2
    exact res_tr (pe_callB call_isiX g1 m1 PyProof.Rows.boot_isinstance (pa_cons (soundX a c y (and2 h).2 k).1 (pa_cons (pe_bltn (v := .ty (isiT T)) g2 m2 (isi_boot T) rfl (isi_nn T) (isi_dd T)) pa_nil) (star_of st)) (by decide) (by decide) (star_of st) rfl) rfl
  | .call f n wf l, X, sc, c, e, h, k => by
    cases e <;> first | exact ff h | skip
    rename_i fn args kws p
    cases fn <;> first | exact ff h | skip
    rename_i x px
    rcases kws with _ | ⟨_, _⟩ <;> first | exact ff h | skip
    have h : (decide (x = f) && gloB sc f && dbgB f && starsN args && mtA m sc l args) = true := h
    have e1 := of_decide_eq_true (and2 (and2 (and2 (and2 h).1).1).1).1
    subst e1
    have g1 := c.glo (and2 (and2 (and2 (and2 h).1).1).1).2
    have d1 := dbg1 (and2 (and2 (and2 h).1).1).2
    obtain ⟨k', hk, ⟨fa, fd, ps, F, hm, kp, b⟩⟩ := k.1
    have pa := soundA l c args (and2 h).2 k.2
    have st := (and2 (and2 h).1).2
    rcases args with _ | ⟨y, ys⟩
    · show Res X _ (tCall (spP X.K n wf) [] E0 (rdA X.K l), tTru X.K (tCall (spP X.K n wf) [] E0 (rdA X.K l)))
      rw [show rdA X.K l = tNil from pa.2.1 rfl]
      exact res_tr (pe_call0 F (c.room.mono hk) g1 hm kp b .nil pass0 d1) rfl
    · exact res_tr (pe_call F (c.room.mono hk) g1 hm kp b .nil pass0 pa.1 d1 (star_of (and2 st).1) (stars_plain (and2 st).2)) rfl
  | .callF f n wf l, X, sc, c, e, h, k => by
    cases e <;> first | exact ff h | skip
    rename_i fn args kws p
    cases fn <;> first | exact ff h | skip
    rename_i x px
    rcases kws with _ | ⟨_, _⟩ <;> first | exact ff h | skip
    have h : (decide (x = f) && gloB sc f && dbgB f && starsN args && mtA m sc l args) = true := h
    have e1 := of_decide_eq_true (and2 (and2 (and2 (and2 h).1).1).1).1
    subst e1
    have g1 := c.glo (and2 (and2 (and2 (and2 h).1).1).1).2
    have d1 := dbg1 (and2 (and2 (and2 h).1).1).2
    obtain ⟨k', hk, ⟨fa, fd, ps, F, hm, kp, b⟩⟩ := k.1
    have pa := soundA l c args (and2 h).2 k.2
    have st := (and2 (and2 h).1).2
    rcases args with _ | ⟨y, ys⟩
    · show Res X _ (tCall (spPF X.K n wf) [] E0 (rdA X.K l), tTru X.K (tCall (spPF X.K n wf) [] E0 (rdA X.K l)))
      rw [show rdA X.K l = tNil from pa.2.1 rfl]
      exact res_tr (pe_call0 F (c.room.mono hk) g1 hm kp b .nil pass0 d1) rfl
    · exact res_tr (pe_call F (c.room.mono hk) g1 hm kp b .nil pass0 pa.1 d1 (star_of (and2 st).1) (stars_plain (and2 st).2)) rfl
  | .pur a, X, sc, c, e, h, k => soundX a c e h k
  | .cpr t i, X, sc, c, e, h, k => by
    have hu : X.A.units + 65 < cLine := by have := c.room.un; omega
    cases e <;> first | exact ff h | skip
    rename_i fn args kws p
    cases fn <;> first | exact ff h | skip
    rename_i x px
    rcases args with _ | ⟨y, _ | ⟨_, _⟩⟩ <;> first | exact ff h | skip
    · cases y <;> first | exact ff h | skip
      rename_i y py
      rcases kws with _ | ⟨_, _⟩ <;> first | exact ff h | skip
      have h : (blB m sc (cbN (if t then 4 else 3)) x && (nmB m i y && visB sc y && dbgB y)) = true := h
      obtain ⟨e1, g1, m1⟩ := c.bl (and2 h).1
      subst e1
      have h2 := (and2 h).2
      have pv : PE X (.Name y py) (tVar i) := pe_var (c.nm (and2 (and2 h2).1).1) (c.vis (and2 (and2 h2).1).2) (dbg1 (and2 h2).2) (dbg2 (and2 h2).2)
      exact res_tr (pe_cbF c.calm hu (if t then 4 else 3) (by cases t <;> decide) g1 m1 (pa_cons pv pa_nil rfl) rfl rfl) rfl
    · cases y <;> exact ff h
  | .att cl n i, X, sc, c, e, h, k => by
    cases e <;> first | exact ff h | skip
    rename_i o f p
    cases o <;> first | exact ff h | skip
    rename_i x px
    have h : ((nmB m i x && visB sc x && dbgB x) && decide (f = cl.ns.getD n "")) = true := h
    have h2 := (and2 h).1
    have hf := of_decide_eq_true (and2 h).2
    subst hf
    exact res_tr (pe_fld (pe_var (c.nm (and2 (and2 h2).1).1) (c.vis (and2 (and2 h2).1).2) (dbg1 (and2 h2).2) (dbg2 (and2 h2).2)) rfl) rfl
  | .meth cl m' n wf o l, X, sc, c, e, h, k => by
    cases e <;> first | exact ff h | skip
    rename_i fn args kws p
    cases fn <;> first | exact ff h | skip
    rename_i y z apos
    rcases kws with _ | ⟨_, _⟩ <;> first | exact ff h | skip
    have h : ((baseO y && decide (z = m') && starsN args && ((apos.endLine == p.line) && decide (args.length < 20))) && (mtX m sc o y && mtA m sc l args)) = true := h
    have h1 := and2 (and2 h).1
    have hz := of_decide_eq_true (and2 (and2 h1.1).1).2
    subst hz
    have ho := (and2 (and2 h1.1).1).1
    have st := (and2 h1.1).2
    have po := (soundX o c y (and2 (and2 h).2).1 k.2.1).1
    have pa := soundA l c args (and2 (and2 h).2).2 k.2.2
    have ht := call_meth (o := y) (m := z) (env := X.env) (base_of ho) st (and2 h1.2).1 (of_decide_eq_true (and2 h1.2).2)
    obtain ⟨k', hk, C, hC, me⟩ := k.1
    rcases args with _ | ⟨a, as⟩
    · show Res X _ (tMethX X.K cl.nm z (spP X.K n wf) (rd X.K o).1 (rdA X.K l), tTru X.K (tMethX X.K cl.nm z (spP X.K n wf) (rd X.K o).1 (rdA X.K l)))
      rw [show rdA X.K l = tNil from pa.2.1 rfl]
      exact res_tr (pe_methX hC (C8.pe_mt0 me c.room hk po ht)) rfl
    · exact res_tr (pe_methX hC (C8.pe_mt me c.room hk po pa.1 (star_of (and2 st).1) (stars_plain (and2 st).2) ht)) rfl
  | .make cl n wf l, X, sc, c, e, h, k => by
    cases e <;> first | exact ff h | skip
    rename_i fn args kws p
    cases fn <;> first | exact ff h | skip
    rename_i x px
    rcases kws with _ | ⟨_, _⟩ <;> first | exact ff h | skip
    have h : (decide (x = cl.nm) && gloB sc cl.nm && dbgB cl.nm && starsN args && mtA m sc l args) = true := h
    have e1 := of_decide_eq_true (and2 (and2 (and2 (and2 h).1).1).1).1
    subst e1
    have g1 := c.glo (and2 (and2 (and2 (and2 h).1).1).1).2
    have d1 := dbg1 (and2 (and2 (and2 h).1).1).2
    obtain ⟨k', hk, C, hC, ma⟩ := k.1
    have pa := soundA l c args (and2 h).2 k.2
    have st := (and2 (and2 h).1).2
    rcases args with _ | ⟨y, ys⟩
    · show Res X _ (tMakeX X.K cl (spM X.K (some 0) (n + 1) wf) (rdA X.K l), tTru X.K (tMakeX X.K cl (spM X.K (some 0) (n + 1) wf) (rdA X.K l)))
      rw [show rdA X.K l = tNil from pa.2.1 rfl]
      obtain ⟨f, fd, ps, ds, M, F, hm, b, d⟩ := ma.ex
      exact res_tr (pe_makeX hC (pe_make0 M F (c.room.mono hk) g1 hm b d pass0 d1)) rfl
    · exact res_tr (pe_makeX hC (C8.pe_mk ma c.room hk g1 pa.1 d1 (star_of (and2 st).1) (stars_plain (and2 st).2))) rfl
  | .isx rs cs t i, X, sc, c, e, h, k => by
    obtain ⟨p, ht, hb⟩ := isx_of (rs := rs) c.q h k
    exact res_tr p ht
  | .gst x t, X, sc, c, e, h, k => by
    cases e <;> first | exact ff h | skip
    rename_i y p
    have h : (decide (y = x) && gloB sc x && dbgB x) = true := h
    have e1 := of_decide_eq_true (and2 (and2 h).1).1
    subst e1
    obtain ⟨u, hu, r⟩ := k
    exact res_tr (pe_glob (c.glo (and2 (and2 h).1).2) hu r (dbg1 (and2 h).2)) rfl
  | .sm f o l, X, sc, c, e, h, k => by
    have hu : X.A.units + 65 < cLine := by have := c.room.un; omega
    cases e <;> first | exact ff h | skip
    rename_i fn args kws p
    cases fn <;> first | exact ff h | skip
    rename_i y z apos
    rcases kws with _ | ⟨_, _⟩ <;> first | exact ff h | skip
    have h : ((decide (z = smN f) && (apos.endLine == p.line)) && (baseO y && starsN args && decide (args.length = smA f)) && (mtX m sc o y && mtA m sc l args)) = true := h
    have hz := of_decide_eq_true (and2 (and2 (and2 h).1).1).1
    subst hz
    have hl := (and2 (and2 (and2 h).1).1).2
    have hbo := (and2 (and2 (and2 (and2 h).1).2).1).1
    have hst := (and2 (and2 (and2 (and2 h).1).2).1).2
    have hln := of_decide_eq_true (and2 (and2 (and2 h).1).2).2
    have po := (soundX o c y (and2 (and2 h).2).1 k.1).1
    have pa := soundA l c args (and2 (and2 h).2).2 k.2
    have hb : ∀ a, attributeBase y a X.env (eval y X.env) = eval y X.env := fun a => base_of hbo
    refine res_tr ?_ rfl
    show PE X _ (tSm X.K f (rd X.K o).1 (rdA X.K l))
    have hma := (and2 (and2 h).2).2
    rcases args with _ | ⟨e1, _ | ⟨_, _⟩⟩
    · have : f = 3 := by
        rcases f with _ | _ | _ | _ | f <;> first | rfl | (simp [smA] at hln)
      subst this
      rw [show rdA X.K l = tNil from pa.2.1 rfl]
      exact pe_upper po (hb _) hl
    · have hs1 : starEach [e1] X.env = [(false, eval e1 X.env)] := star_of (and2 hst).1
      rcases l with _ | ⟨a, _ | ⟨_, _⟩⟩
      · exact ff hma
      · have p1 : PE X e1 (rd X.K a).1 := pa.2.2.1
        rcases f with _ | _ | _ | _ | f
        · exact pe_split po p1 hs1 (hb _) hl
        · exact pe_partition po p1 hs1 (hb _) hl
        · exact pe_join po p1 hs1 (hb _) hl
        · simp [smA] at hln
        · exact pe_bm PySem.F.plainAttrs_list PySem.F.slot_list_index PySem.F.type_list_index (mt_indexD hu) po pa.1 (hb _) (by rw [hs1]; rfl) hl (star_of (and2 hst).1) rfl
      · exact ff (and2 hma).2
    · rcases f with _ | _ | _ | _ | f <;> simp [smA] at hln
  | .ixr i b, X, sc, c, e, h, k => by
    cases e <;> first | exact ff h | skip
    rename_i x y p
    cases x <;> first | (cases y <;> exact ff h) | skip
    rename_i x px
    have h : (ixOk y && (nmB m i x && visB sc x && dbgB x) && mtX m sc b y) = true := by
      cases y <;> exact h
    have hv := (and2 (and2 h).1).2
    exact res_tr (pe_ix ix_seq (pe_var (c.nm (and2 (and2 hv).1).1) (c.vis (and2 (and2 hv).1).2) (dbg1 (and2 hv).2) (dbg2 (and2 hv).2)) (soundX b c y (and2 h).2 k).1 (ix_of (and2 (and2 h).1).1)) rfl
  | .lrev a, X, sc, c, e, h, k => by
    cases e <;> first | exact ff h | skip
    rename_i fn args kws p
    cases fn <;> first | exact ff h | skip
    rename_i x px
    rcases args with _ | ⟨w, r⟩ <;> first | exact ff h | skip
    cases w <;> first | exact ff h | skip
    rename_i fn2 args2 kws2 p2
    cases fn2 <;> first | exact ff h | skip
    rename_i y py
    rcases args2 with _ | ⟨z, _ | ⟨_, _⟩⟩ <;> rcases kws2 with _ | ⟨_, _⟩ <;> rcases r with _ | ⟨_, _⟩ <;> rcases kws with _ | ⟨_, _⟩ <;> first | exact ff h | skip
    have h : (blB m sc "list" x && blB m sc "reversed" y && starN z && mtX m sc a z) = true := h
    obtain ⟨e1, g1, m1⟩ := c.bl (and2 (and2 (and2 h).1).1).1
    obtain ⟨e2, g2, m2⟩ := c.bl (and2 (and2 (and2 h).1).1).2
    subst e1 e2
    exact res_tr (pe_lstRev c.calm g1 m1 g2 m2 (soundX a c z (and2 h).2 k).1 (star_of (and2 (and2 h).1).2)) rfl
  | .lrg a, X, sc, c, e, h, k => by
    cases e <;> first | exact ff h | skip
    rename_i fn args kws p
    cases fn <;> first | exact ff h | skip
    rename_i x px
    rcases args with _ | ⟨w, r⟩ <;> first | exact ff h | skip
    cases w <;> first | exact ff h | skip
    rename_i fn2 args2 kws2 p2
    cases fn2 <;> first | exact ff h | skip
    rename_i y py
    rcases args2 with _ | ⟨z, _ | ⟨_, _⟩⟩ <;> rcases kws2 with _ | ⟨_, _⟩ <;> rcases r with _ | ⟨_, _⟩ <;> rcases kws with _ | ⟨_, _⟩ <;> first | exact ff h | skip
    have h : (blB m sc "list" x && blB m sc "range" y && starN z && mtX m sc a z) = true := h
    obtain ⟨e1, g1, m1⟩ := c.bl (and2 (and2 (and2 h).1).1).1
    obtain ⟨e2, g2, m2⟩ := c.bl (and2 (and2 (and2 h).1).1).2
    subst e1 e2
    exact res_tr (pe_listRg c.calm g1 m1 (prg_1 g2 m2 (soundX a c z (and2 h).2 k).1 (star_of (and2 (and2 h).1).2))) rfl
  | .lc it g d e0 vs, X, sc, c, e, h, k => by
    cases e <;> first | exact ff h | skip
    rename_i z gs scope p
    rcases gs with _ | ⟨⟨tg, iter, ifs, as⟩, _ | ⟨_, _⟩⟩ <;> first | exact ff h | skip
    have h : (decide (as = 0) && setN iter && blkC m.N sc scope (ownOf m vs) && mtI m sc it tg iter && mtG m scope g tg && mtC m scope d ifs && mtX m scope e0 z) = true := h
    have h6 := and2 h
    have h5 := and2 h6.1
    have h4 := and2 h5.1
    have h3 := and2 h4.1
    have h2 := and2 h3.1
    have h1 := and2 h2.1
    have e1 := of_decide_eq_true h1.1
    subst e1
    have q := pe_lc (pos := p) (te := (rd X.K e0).1) (tt := rdC X.K d) (g := rdG X.K g) (wi := rdI X.K it) c.calm (by rw [c.n]; exact c.nd) (soundI it c tg iter h3.2 k.1) (c.ok h2.2) (fun s H C cl fp => soundG (c.blk s H C cl fp) g tg h4.2)
      (fun s H C cl fp => soundC d (c.blk s H C cl fp) ifs h5.2 k.2.1) (fun s H C cl fp => (soundX e0 (c.blk s H C cl fp) z h6.2 k.2.2).1) (set_of h1.2)
    rw [ownOf_snd] at q
    exact res_tr q rfl
  | .lcO i g d e0 vs, X, sc, c, e, h, k => by
    cases e <;> first | exact ff h | skip
    rename_i z gs scope p
    rcases gs with _ | ⟨⟨tg, iter, ifs, as⟩, r⟩ <;> first | exact ff h | skip
    cases iter <;> first | exact ff h | skip
    rename_i x px
    rcases r with _ | ⟨_, _⟩ <;> first | exact ff h | skip
    have h : (decide (as = 0) && blkC m.N sc scope (ownOf m vs) && (nmB m i x && visB sc x && dbgB x) && mtG m scope g tg && mtC m scope d ifs && mtX m scope e0 z) = true := h
    have h6 := and2 h
    have h5 := and2 h6.1
    have h4 := and2 h5.1
    have h3 := and2 h4.1
    have h2 := and2 h3.1
    have e1 := of_decide_eq_true h2.1
    subst e1
    have v1 := and2 h3.2
    have v2 := and2 v1.1
    have q := pe_lc (pos := p) (te := (rd X.K e0).1) (tt := rdC X.K d) (g := rdG X.K g) (wi := iList X.K (tVar i)) c.calm (by rw [c.n]; exact c.nd) (pi_list (pe_var (pos := px) (c.nm v2.1) (c.vis v2.2) (dbg1 v1.2) (dbg2 v1.2))) (c.ok h2.2) (fun s H C cl fp => soundG (c.blk s H C cl fp) g tg h4.2)
      (fun s H C cl fp => soundC d (c.blk s H C cl fp) ifs h5.2 k.1) (fun s H C cl fp => (soundX e0 (c.blk s H C cl fp) z h6.2 k.2).1) (set_of rfl)
    rw [ownOf_snd] at q
    exact res_tr q rfl
  | .xt x l, X, sc, c, e, h, k => by
    have h : (match x.mt m sc e with
      | some es => mtL m l es
      | none => false) = true := h
    cases hx : x.mt m sc e with
    | none => rw [hx] at h; exact ff h
    | some es =>
      rw [hx] at h
      exact res_tr (x.sound c k.1 hx (soundL l c es h k.2)) (x.tru hx)
theorem soundA : ∀ (l : PXs) {X : Cx} {sc : Scope} (c : Cxt m sc j X) (es : List Expr), mtA m sc l es = true → cAs (CalR j X) l → PA X es (rdA X.K l) ∧ (es = [] → rdA X.K l = tNil) ∧ hdP X l es ∧ sdP X l es
  | .nil, X, sc, c, es, h, _ => by
    cases es <;> first | exact ff h | skip
    exact ⟨pa_nil, fun _ => rfl, trivial, trivial⟩
  | .cons a l, X, sc, c, es, h, k => by
    cases es <;> first | exact ff h | skip
    rename_i e r
    have h : (starN e && mtX m sc a e && mtA m sc l r) = true := h
    have sx := (soundX a c e (and2 (and2 h).1).2 k.1).1
    have sl := soundA l c r (and2 h).2 k.2
    exact ⟨pa_cons sx sl.1 (star_of (and2 (and2 h).1).1), (fun z => by cases z), sx, sl.2.2.1⟩
theorem soundO : ∀ (o : PXo) {X : Cx} {sc : Scope} (c : Cxt m sc j X) (e : Option Expr), mtO m sc o e = true → cOo (CalR j X) o → PO X e (rdO X.K o)
  | .no, X, sc, c, e, h, _ => by
    cases e <;> first | exact ff h | skip
    exact po_none
  | .so a, X, sc, c, e, h, k => by
    cases e <;> first | exact ff h | skip
    rename_i e
    exact po_some (soundX a c e h k).1
theorem soundC : ∀ (o : PXo) {X : Cx} {sc : Scope} (c : Cxt m sc j X) (es : List Expr), mtC m sc o es = true → cOo (CalR j X) o → PTs X es (rdC X.K o)
  | .no, X, sc, c, e, h, _ => by
    cases e <;> first | exact ff h | skip
    exact pts_nil
  | .so a, X, sc, c, e, h, k => by
    rcases e with _ | ⟨e, _ | ⟨_, _⟩⟩ <;> first | exact ff h | skip
    exact pts_one (soundX a c e h k).2.1
theorem soundI : ∀ (i : PXi) {X : Cx} {sc : Scope} (c : Cxt m sc j X) (tg e : Expr), mtI m sc i tg e = true → cIt (CalR j X) i → PI X tg e (rdI X.K i)
  | .li a, X, sc, c, tg, e, h, k => pi_list (soundX a c e h k).1
  | .ti a, X, sc, c, tg, e, h, k => pi_tup (soundX a c e h k).1
  | .lq a, X, sc, c, tg, e, h, k => pi_list (soundX a c e h k).1
  | .st a, X, sc, c, tg, e, h, k => pi_str (soundX a c e h k).1
  | .r1 a, X, sc, c, tg, e, h, k => by
    cases e <;> first | exact ff h | skip
    rename_i fn args kws p
    cases fn <;> first | exact ff h | skip
    rename_i x px
    rcases args with _ | ⟨y, _ | ⟨_, _⟩⟩ <;> rcases kws with _ | ⟨_, _⟩ <;> first | exact ff h | skip
    have h : (blB m sc "range" x && starN y && mtX m sc a y) = true := h
    obtain ⟨e1, g1, m1⟩ := c.bl (and2 (and2 h).1).1
    subst e1
    have st := (and2 (and2 h).1).2
    exact pi_range1 g1 m1 (pa_cons (soundX a c y (and2 h).2 k).1 pa_nil (star_of st)) (star_of st)
  | .r2 a b, X, sc, c, tg, e, h, k => by
    cases e <;> first | exact ff h | skip
    rename_i fn args kws p
    cases fn <;> first | exact ff h | skip
    rename_i x px
    rcases args with _ | ⟨y, _ | ⟨z, _ | ⟨_, _⟩⟩⟩ <;> rcases kws with _ | ⟨_, _⟩ <;> first | exact ff h | skip
    have h : (blB m sc "range" x && starN y && starN z && mtX m sc a y && mtX m sc b z) = true := h
    have h4 := and2 h
    have h3 := and2 h4.1
    have h2 := and2 h3.1
    have h1 := and2 h2.1
    obtain ⟨e1, g1, m1⟩ := c.bl h1.1
    subst e1
    have s2 : starEach [z] X.env = [(false, eval z X.env)] := star_of h2.2
    exact pi_range2 g1 m1 (pa_cons (soundX a c y h3.2 k.1).1 (pa_cons (soundX b c z h4.2 k.2).1 pa_nil (star_of h2.2)) (star_of h1.2)) (by rw [star_of h1.2, s2]) s2
  | .r3 a b d, X, sc, c, tg, e, h, k => by
    cases e <;> first | exact ff h | skip
    rename_i fn args kws p
    cases fn <;> first | exact ff h | skip
    rename_i x px
    rcases args with _ | ⟨y, _ | ⟨z, _ | ⟨t, _ | ⟨_, _⟩⟩⟩⟩ <;> rcases kws with _ | ⟨_, _⟩ <;> first | exact ff h | skip
    have h : (blB m sc "range" x && starN y && starN z && starN t && mtX m sc a y && mtX m sc b z && mtX m sc d t) = true := h
    have h6 := and2 h
    have h5 := and2 h6.1
    have h4 := and2 h5.1
    have h3 := and2 h4.1
    have h2 := and2 h3.1
    have h1 := and2 h2.1
    obtain ⟨e1, g1, m1⟩ := c.bl h1.1
    subst e1
    have sp : starsN [z, t] = true := by
      show (starN z && (starN t && true)) = true
      rw [h2.2, h3.2]; rfl
    exact pi_range3 g1 m1 (pa_cons (soundX a c y h4.2 k.1).1 (pa_cons (soundX b c z h5.2 k.2.1).1 (pa_cons (soundX d c t h6.2 k.2.2).1 pa_nil (star_of h3.2)) (star_of h2.2)) (star_of h1.2)) (star_of h1.2) (stars_plain sp)
  | .rev a, X, sc, c, tg, e, h, k => by
    cases e <;> first | exact ff h | skip
    rename_i fn args kws p
    cases fn <;> first | exact ff h | skip
    rename_i x px
    rcases args with _ | ⟨y, _ | ⟨_, _⟩⟩ <;> rcases kws with _ | ⟨_, _⟩ <;> first | exact ff h | skip
    have h : (blB m sc "reversed" x && starN y && mtX m sc a y) = true := h
    obtain ⟨e1, g1, m1⟩ := c.bl (and2 (and2 h).1).1
    subst e1
    have st := (and2 (and2 h).1).2
    exact pi_reversed g1 m1 (pa_cons (soundX a c y (and2 h).2 k).1 pa_nil (star_of st)) (star_of st)
  | .enum a, X, sc, c, tg, e, h, k => by
    cases e <;> first | exact ff h | skip
    rename_i fn args kws p
    cases fn <;> first | exact ff h | skip
    rename_i x px
    rcases args with _ | ⟨y, _ | ⟨_, _⟩⟩ <;> rcases kws with _ | ⟨_, _⟩ <;> first | exact ff h | skip
    have h : (blB m sc "enumerate" x && tupE tg && starN y && mtX m sc a y) = true := h
    obtain ⟨e1, g1, m1⟩ := c.bl (and2 (and2 (and2 h).1).1).1
    subst e1
    have st := (and2 (and2 h).1).2
    have ht := (and2 (and2 (and2 h).1).1).2
    cases tg <;> first | exact ff ht | skip
    exact pi_enum g1 m1 (pa_cons (soundX a c y (and2 h).2 k).1 pa_nil (star_of st)) (star_of st)
  | .xt x l, X, sc, c, tg, e, h, k => by
    have h : (match x.mt m sc tg e with
      | some es => mtL m l es
      | none => false) = true := h
    cases hx : x.mt m sc tg e with
    | none => rw [hx] at h; exact ff h
    | some es =>
      rw [hx] at h
      exact x.sound c hx (soundL l c es h k)
theorem soundL : ∀ (l : PXs) {X : Cx} {sc : Scope} (c : Cxt m sc j X) (es : List (Scope × Expr)), mtL m l es = true → cAs (CalR j X) l → All2 (fun (p : Scope × Expr) t => ∀ X', Sib X X' → Cxt m p.1 j X' → PE X' p.2 t) es (rdL X.K l)
  | .nil, X, sc, c, es, h, _ => by
    cases es <;> first | exact ff h | skip
    exact .nil
  | .cons a l, X, sc, c, es, h, k => by
    cases es <;> first | exact ff h | skip
    rename_i p r
    have h : (mtX m p.1 a p.2 && mtL m l r) = true := h
    refine .cons (fun X' s c' => ?_) (soundL l c r (and2 h).2 k.2)
    have q := (soundX a c' p.2 (and2 h).1 (by rw [s.cal j]; exact k.1)).1
    rw [s.K] at q
    exact q
end
end
end PL
namespace PL
open PySem PySem.Spec L2
/-! ### for r in xs: r[k].clear() -/
def tDetE (K : PySem.W.Frag) (t : TE) : TE := fun σ H Q => t σ H fun v H1 => Det K H1 → Q v H1
theorem pe_det {X : Cx} {e : Expr} {t : TE} (h : PE X e t) : PE X e (tDetE X.K t) := by
  refine ⟨fun pins s σ H Q I ht => ?_⟩
  exact thn (h.run pins s σ H _ I ht) fun v s1 ⟨x, H1, I1, r1, q1⟩ => ⟨x, H1, I1, r1, q1 (inv_det I1)⟩
def isTL (k : Nat) : PyData → Bool
  | .tuple es => (match es[k]? with
    | some (.list _) => true
    | _ => false)
  | _ => false
def clrK (k : Nat) : PyData → PyData
  | .tuple es => .tuple (es.set k (.list []))
  | d => d
def wLcl (x r k : Nat) : WS := fun κ ρ => x ≠ r ∧ r < ρ.length ∧ match ρ[x]? with
  | some (some (.un, .list ds)) => (∀ d ∈ ds, isTL k d = true) ∧ κ.nx (((drB ρ).set r none).set x (some (.un, .list (ds.map (clrK k)))))
  | _ => False
def tLcl (K : PySem.W.Frag) (x r k : Nat) : TS := tFor (iList K (tVar x)) (gName r) (tSeq (tDrop (tBM0 K "list" rClear (tDetE K (tOp (rIx K) (tVar r) (tC (.int k)))))) tNext)
theorem lv_setR {u : V} : ∀ {σ : St} {ρ : Rho} {r : Nat}, EnvOk σ ρ → lv (σ.set r (some u)) (ρ.set r none) = lv σ (ρ.set r none) := by
  intro σ ρ r h
  induction h generalizing r with
  | e0 => rfl
  | @e1 v k d σ ρ hs h ih =>
    cases r with
    | zero => rw [List.set_cons_zero, List.set_cons_zero, lv_none, lv_none]
    | succ r =>
      rw [List.set_cons_succ, List.set_cons_succ]
      show (⟨v, k, d⟩ : Cel) :: lv (σ.set r (some u)) (ρ.set r none) = ⟨v, k, d⟩ :: lv σ (ρ.set r none)
      rw [ih]
  | @e2 o σ ρ h ih =>
    cases r with
    | zero => rw [List.set_cons_zero, List.set_cons_zero, lv_none, lv_none]
    | succ r => rw [List.set_cons_succ, List.set_cons_succ, lv_none, lv_none]; exact ih
theorem env_setR {u : V} : ∀ {σ : St} {ρ : Rho} {r : Nat}, EnvOk σ ρ → EnvOk σ (ρ.set r none) ∧ EnvOk (σ.set r (some u)) (ρ.set r none) := by
  intro σ ρ r h
  induction h generalizing r with
  | e0 => exact ⟨.e0, .e0⟩
  | e1 hs h ih =>
    cases r with
    | zero => exact ⟨.e2 h, .e2 h⟩
    | succ r => exact ⟨.e1 hs ih.1, .e1 hs ih.2⟩
  | e2 h ih =>
    cases r with
    | zero => exact ⟨.e2 h, .e2 h⟩
    | succ r => exact ⟨.e2 ih.1, .e2 ih.2⟩
theorem lv_forget {σ : St} {ρ : Rho} (h : EnvOk σ ρ) (r : Nat) : ∃ M, (lv σ ρ).Perm (M ++ lv σ (ρ.set r none)) := by
  cases e : ρ[r]? with
  | none =>
    refine ⟨[], ?_⟩
    rw [List.nil_append, List.set_eq_of_length_le (by simpa using e)]
  | some o =>
    cases o with
    | none =>
      refine ⟨[], ?_⟩
      have : ρ.set r none = ρ := by
        apply List.ext_getElem?
        intro j
        rw [List.getElem?_set]
        split
        · rename_i z; subst z; rw [e]; rw [if_pos (List.getElem?_eq_some_iff.mp e).1]
        · rfl
      rw [List.nil_append, this]
    | some s =>
      obtain ⟨k, d⟩ := s
      obtain ⟨v, _, p, _, _⟩ := h.slot e
      exact ⟨[_], p⟩
theorem isTL_inv {k : Nat} {d : PyData} (h : isTL k d = true) : ∃ es l0, d = .tuple es ∧ es[k]? = some (.list l0) := by
  unfold isTL at h
  split at h
  · rename_i es
    split at h
    · rename_i l0 e
      exact ⟨es, l0, rfl, e⟩
    · cases h
  · cases h
theorem clr_step {k i : Nat} {ds : List PyData} {d : PyData} (e : ds[i]? = some d) : ((ds.take i).map (clrK k) ++ ds.drop i).set i (clrK k d) = (ds.take (i + 1)).map (clrK k) ++ ds.drop (i + 1) := by
  have hi := (List.getElem?_eq_some_iff.mp e).1
  have hl : ((ds.take i).map (clrK k)).length = i := by rw [List.length_map, List.length_take]; omega
  rw [List.set_append_right _ _ (by omega), hl, Nat.sub_self, drop_get e, List.set_cons_zero, List.take_add_one, e, List.map_append]
  simp
theorem clr_get {k i : Nat} {ds : List PyData} {d : PyData} (e : ds[i]? = some d) : ((ds.take i).map (clrK k) ++ ds.drop i)[i]? = some d := by
  have hi := (List.getElem?_eq_some_iff.mp e).1
  have hl : ((ds.take i).map (clrK k)).length = i := by rw [List.length_map, List.length_take]; omega
  rw [List.getElem?_append_right (by omega), hl, Nat.sub_self, drop_get e]
  rfl
theorem getP2 {l fs : List PyData} {i k : Nat} {d : PyData} (gd : l[i]? = some (.tuple fs)) (hk : fs[k]? = some d) : getP (.list l) [i, k] = some d := by
  simp [getP, gd, hk]
theorem setP2 {l fs : List PyData} {i k : Nat} {d y : PyData} (gd : l[i]? = some (.tuple fs)) (hk : fs[k]? = some d) : setP (.list l) [i, k] y = .list (l.set i (.tuple (fs.set k y))) := by
  simp [setP, gd, hk]
theorem lift_lcl {K : PySem.W.Frag} {x r k : Nat} : LiftS K (tLcl K x r k) (wLcl x r k) := by
  intro G H σ ρ L D κ hb nb ok s h q
  obtain ⟨hxr, hr, h⟩ := h
  split at h
  · rename_i ds e
    obtain ⟨all, h⟩ := h
    have okd := (env_drB ok).1
    have okr := (env_setR (u := .non) (r := r) okd).1
    have er : ((drB ρ).set r none)[x]? = some (some (.un, .list ds)) := by
      rw [List.getElem?_set_ne (Ne.symm hxr)]
      exact dr_get e (by decide)
    obtain ⟨v, e1, p1, ok3, g⟩ := okr.slot er
    have s1 : St0 K H G (lv σ (drB ρ) ++ L) := by
      obtain ⟨M, p⟩ := dr_perm ok
      have z := s.perm (p.append_right L)
      rw [List.append_assoc] at z
      exact z.drops
    have s2 : St0 K H G (lv σ ((drB ρ).set r none) ++ L) := by
      obtain ⟨M, p⟩ := lv_forget okd r
      have z := s1.perm (p.append_right L)
      rw [List.append_assoc] at z
      exact z.drops
    have s4 := s2.perm (p1.append_right L)
    have nb2 : NoBr (lv σ (((drB ρ).set r none).set x none) ++ L) := fun c hc' => by
      rcases List.mem_append.mp hc' with h | h
      · obtain ⟨M, p⟩ := lv_forget okd r
        exact nb_drB ok c (p.symm.subset (List.mem_append_right _ (p1.symm.subset (List.mem_cons_of_mem _ h))))
      · exact nb c h
    obtain ⟨a, rfl⟩ := dp_ref_l s4.dp
    have hrl : r < σ.length := by rw [ok.len]; exact hr
    refine ⟨.ref a, e1, a, rfl, ?_, ?_⟩
    · have dv := s4.dp
      cases dv with
      | lst hs _ => exact ⟨_, hs⟩
    refine ⟨fun i m σ' H' => m = ds.length - i ∧ i ≤ ds.length ∧ (σ' = σ ∨ ∃ u, σ' = σ.set r (some u)) ∧ St0 K H' G (⟨.ref a, .un, .list ((ds.take i).map (clrK k) ++ ds.drop i)⟩ :: (lv σ (((drB ρ).set r none).set x none) ++ L)), ⟨ds.length, by simp, Nat.zero_le _, .inl rfl, by simpa using s4⟩, ?_⟩
    rintro i m σ' H' ⟨rfl, hi, hσ, s5⟩
    have dv := s5.dp
    have hlen : ((ds.take i).map (clrK k) ++ ds.drop i).length = ds.length := by
      rw [List.length_append, List.length_map, List.length_take, List.length_drop]; omega
    by_cases hlt : i < ds.length
    · obtain ⟨d, hd⟩ : ∃ d, ds[i]? = some d := ⟨_, List.getElem?_eq_getElem hlt⟩
      obtain ⟨fs, l0, rfl, hk⟩ := isTL_inv (all d (List.mem_of_getElem? hd))
      have gd := clr_get (k := k) hd
      cases dv with
      | @lst _ xs _ hs ha =>
        obtain ⟨u, hu, du⟩ := dpAll_at ha gd
        refine .inr ⟨⟨xs, u, hs, hu⟩, fun σ2 H2 => (∃ u, σ2 = σ.set r (some u)) ∧ St0 K H2 G (⟨.ref a, .un, .list ((ds.take (i + 1)).map (clrK k) ++ ds.drop (i + 1))⟩ :: (lv σ (((drB ρ).set r none).set x none) ++ L)), ?_, ?_⟩
        · rintro σ2 H2 ⟨hu2, s6⟩
          exact ⟨ds.length - (i + 1), by omega, rfl, hlt, .inr hu2, s6⟩
        · rintro y H2 ⟨rfl, hy⟩
          have ey := hy xs hs
          rw [hu] at ey
          cases ey
          show tDrop _ _ (σ'.set r (some u)) H2
          have eσ : (σ'.set r (some u)) = σ.set r (some u) := by
            rcases hσ with rfl | ⟨u', rfl⟩
            · rfl
            · rw [List.set_set]
          rw [eσ]
          refine ⟨u, by rw [List.getElem?_set_self hrl], ?_⟩
          cases du with
          | @tup b ys _ ht hb2 =>
            obtain ⟨w, hw, dw⟩ := dpAll_at hb2 hk
            obtain ⟨c, rfl⟩ := dp_ref_l dw
            refine .inr (.inl ⟨b, ys, (k : Int), .ref c, rfl, rfl, ht, ?_, fun dt => ?_⟩)
            · have hl2 := dpAll_len hb2
              have hkl := (List.getElem?_eq_some_iff.mp hw).1
              exact atI_nat hw
            · have re : Reach K H2 (.ref a) [i, k] (.ref c) := .cons (.inl hs) hu (.cons (.inr ht) hw .nil)
              obtain ⟨ws, w1, w2, w3⟩ := St0.chgP (us := []) (es := []) (cs := []) (js := [i, k]) (ds0 := l0) dt .nil rfl s5 nb2 (by rw [hb]; rfl) re (getP2 gd hk)
              refine ⟨?_, c, ws, rfl, rfl, w1, ?_⟩
              · cases dw with
                | lst hs3 _ => exact .inl ⟨rfl, _, hs3⟩
              · have s6 := w3 [] [] (fun H F Fe _ r re => ⟨[], [], .nil, List.nil_sublist _, .refl _⟩)
                refine ⟨⟨_, rfl⟩, ?_⟩
                have es : setP (.list ((ds.take i).map (clrK k) ++ ds.drop i)) [i, k] (.list []) = .list ((ds.take (i + 1)).map (clrK k) ++ ds.drop (i + 1)) := by
                  rw [setP2 gd hk]
                  exact congrArg PyData.list (clr_step (d := .tuple fs) hd)
                rw [es] at s6
                exact s6
    · have ei : i = ds.length := by omega
      subst ei
      rw [List.take_length, List.drop_length, List.append_nil] at s5
      refine .inl ⟨?_, ?_⟩
      · cases dv with
        | lst hs ha => exact ⟨_, hs, by rw [dpAll_len ha, hlen]; exact Nat.le_refl _⟩
      · obtain ⟨ok4, p4⟩ := g .un (.list (ds.map (clrK k))) rfl
        have s6 := s5.perm (p4.append_right L)
        rcases hσ with rfl | ⟨u, rfl⟩
        · exact q.nx σ' H' _ ok4 s6 h
        · have eq : (((drB ρ).set r none).set x (some (Kd.un, PyData.list (ds.map (clrK k))))).set r none = ((drB ρ).set r none).set x (some (Kd.un, PyData.list (ds.map (clrK k)))) := by
            rw [List.set_comm _ _ hxr, List.set_set]
          have z := (env_setR (u := u) (r := r) ok4).2
          have zl := lv_setR (u := u) (r := r) ok4
          rw [eq] at z zl
          rw [← zl] at s6
          exact q.nx _ H' _ z s6 h
  · exact h.elim
/-! ### x[j]..[k].clear() -/
theorem lift_clrP {K : PySem.W.Frag} {i : Nat} {tp : TE} {wp : WPt} (lp : LiftPt K i tp wp) : LiftS K (tDrop (tBM0 K "list" rClear (tDetE K tp))) (wChgP i wp wNil fClr) := by
  intro G H σ ρ L D κ hb nb ok s h q
  refine lp G H σ ρ L _ _ ok s h fun v0 u d H1 ρ1 js e0 sm re dd ok1 s1 h1 => fun dt => ?_
  obtain ⟨hl, _, h2⟩ := h1
  have hq : ∃ p, u = .ref p ∧ tyV K "list" (.ref p) H1 := by
    cases dd <;> first | cases hl | skip
    rename_i p xs ds hs ha
    exact ⟨_, rfl, .inl ⟨rfl, _, hs⟩⟩
  obtain ⟨p, rfl, ty⟩ := hq
  refine ⟨ty, ?_⟩
  split at h2
  · rename_i k0 D0 e
    obtain ⟨hk, h2⟩ := h2
    split at h2
    · rename_i ds eg
      obtain ⟨v, e1, p1, ok3, g⟩ := (env_drB ok1).1.slot (dr_get e (ioU_ne hk))
      rw [e0] at e1
      cases e1
      have s40 : St0 K H1 G (⟨v0, k0, D0⟩ :: (lv σ ((drB ρ1).set i none) ++ L)) := (s1.drB (cs := []) ok1).drops.perm (p1.append_right L)
      obtain ⟨s4, bk⟩ := s40.toUn hk
      have nb2 : NoBr (lv σ ((drB ρ1).set i none) ++ L) := fun c hc' => by
        rcases List.mem_append.mp hc' with h | h
        · exact nb_drB ok1 c (p1.symm.subset (List.mem_cons_of_mem _ h))
        · exact nb c h
      obtain ⟨ws, w1, w2, w3⟩ := St0.chgP (us := []) (es := []) (cs := []) dt .nil rfl s4 nb2 (by rw [hb]; rfl) re eg
      refine ⟨p, ws, rfl, rfl, w1, ?_⟩
      have s5 := bk _ _ (w3 [] [] (fun H F Fe _ r re => ⟨[], [], .nil, List.nil_sublist _, .refl _⟩))
      obtain ⟨ok4, p4⟩ := g k0 (setP D0 js (.list [])) (ioU_st hk)
      exact q.nx σ _ _ ok4 (s5.perm (p4.append_right L)) h2
    · exact h2.elim
  · exact h2.elim
end PL
namespace PL
open PySem PySem.Spec L2
/-! ### x = xs.pop() -/
def popK (k : Kd) : Kd := match k with
  | .un => .un
  | .rt => .fr
  | k => k
def popOk (k : Kd) : Bool := match k with
  | .un => true
  | .rt => true
  | .fr => false
  | .br => false
  | .ro => false
  | .io => false
def wPopG (i : Nat) (wg : WG) : WS := fun κ ρ => match ρ[i]? with
  | some (some (k, .list ds)) => popOk k = true ∧ ∃ ds0 d, ds = ds0 ++ [d] ∧ wg (popK k) d ((drB ρ).set i (some (k, .list ds0))) κ.nx
  | _ => False
section
variable {K : PySem.W.Frag} {H : Hp}
theorem rxAll_snoc : ∀ {vs : List V} {ds : List PyData} {d : PyData} {F : List Addr}, RxAll K H vs (ds ++ [d]) F → ∃ vs0 v F0 F1, vs = vs0 ++ [v] ∧ F = F0 ++ F1 ∧ RxAll K H vs0 ds F0 ∧ Rx K H v d F1
  | _, [], d, _, h => by
    cases h with
    | cons r s =>
      cases s
      exact ⟨[], _, [], _, rfl, by simp, .nil, r⟩
  | _, x :: ds, d, _, h => by
    cases h with
    | cons r s =>
      obtain ⟨vs0, v, F0, F1, rfl, rfl, h1, h2⟩ := rxAll_snoc s
      exact ⟨_, v, _, F1, rfl, (List.append_assoc _ _ _).symm, .cons r h1, h2⟩
/-- the state with the last item taken out -/
theorem St0.popL {G : Gh} {L : List Cel} {p : Addr} {k : Kd} {ds : List PyData} {d : PyData} (s : St0 K H G (⟨.ref p, k, .list (ds ++ [d])⟩ :: L)) (hk : popOk k = true) (nb : NoBr L) (hb : G.b p = none) :
    ∃ vs v, H p = some (.lst (vs ++ [v])) ∧ St0 K (upd H p (.lst vs)) G (⟨v, popK k, d⟩ :: ⟨.ref p, k, .list ds⟩ :: L) := by
  cases k with
  | un =>
    obtain ⟨E, s⟩ := s
    have nd := s.nd
    cases id s.ex with
    | @un _ _ _ _ E1 r e1 =>
      cases r with
      | @lst _ ws _ F hp ra =>
        obtain ⟨vs, v, F0, F1, rfl, rfl, r0, r1⟩ := rxAll_snoc ra
        have pm : (F1 ++ (p :: F0 ++ E1)).Perm ((p :: (F0 ++ F1)) ++ E1) := by
          have h1 : (F1 ++ (p :: F0 ++ E1)).Perm ((p :: F0 ++ E1) ++ F1) := List.perm_append_comm
          refine h1.trans ?_
          have h2 : ((p :: F0 ++ E1) ++ F1) = (p :: F0) ++ (E1 ++ F1) := by simp
          have h3 : ((p :: (F0 ++ F1)) ++ E1) = (p :: F0) ++ (F1 ++ E1) := by simp
          rw [h2, h3]
          exact List.Perm.append_left _ List.perm_append_comm
        have nd2 := pm.nodup_iff.mpr nd
        have hsub : ∀ b, b ∈ F1 ++ (p :: F0 ++ E1) → b ∈ (p :: (F0 ++ F1)) ++ E1 := fun b hb => pm.subset hb
        have hn : (p :: ((F0 ++ F1) ++ E1)).Nodup := nd
        have np := (List.nodup_cons.mp hn).1
        have n0 : p ∉ F0 := fun z => np (by simp [z])
        have n1 : p ∉ F1 := fun z => np (by simp [z])
        have nE : p ∉ E1 := fun z => np (by simp [z])
        have pin : p ∈ F1 ++ (p :: F0 ++ E1) := by simp
        refine ⟨vs, v, hp, F1 ++ (p :: F0 ++ E1), .un (r1.upd hp n1) (.un (.lst upd_same (r0.upd hp n0)) (e1.upd hp nE)), nd2, fun q hq => s.nw q (hsub q hq), ?_, fun a o e => ?_, fun c hc => ?_⟩
        · rw [hide_upd_in pin]
          exact s.sm.trans (hide_mono hsub)
        · rw [upd_ne (ne_of_none e hb)]
          exact s.gr a o e
        · rcases List.mem_cons.mp hc with rfl | hc
          · trivial
          rcases List.mem_cons.mp hc with rfl | hm
          · trivial
          · have z := (s.sn c (List.mem_cons_of_mem _ hm)).mono hsub
            have nbc := nb c hm
            obtain ⟨v', k', d'⟩ := c
            cases k' with
            | un => trivial
            | fr => obtain ⟨Fz, z⟩ := z; exact ⟨Fz, by rw [hide_upd_in pin]; exact z⟩
            | br => exact absurd rfl nbc
            | ro => show Dp K (hide (upd H p (.lst vs)) _) v' d'; rw [hide_upd_in pin]; exact z
            | rt =>
              obtain ⟨a, ws, dz, Fz, h1, h2, h3, h4⟩ := z
              refine ⟨a, ws, dz, Fz, h1, h2, ?_, by rw [hide_upd_in pin]; exact h4⟩
              have na : a ≠ p := by
                rintro rfl
                exact nE (rt_mem e1 _ hm rfl _ h1)
              rw [upd_ne na]
              exact h3
            | io => trivial
  | rt =>
    obtain ⟨E, s⟩ := s
    have nd := s.nd
    obtain ⟨a, ws, es, F, h1, h2, h3, h4⟩ := s.sn _ List.mem_cons_self
    cases h1
    cases h2
    cases id s.ex with
    | @rt _ _ _ _ E1 hp e1 =>
      obtain ⟨vs, v, F0, F1, rfl, rfl, r0, r1⟩ := rxAll_snoc h4
      have nE : p ∉ E1 := (List.nodup_cons.mp nd).1
      have pin : p ∈ p :: E1 := List.mem_cons_self
      refine ⟨vs, v, h3, p :: E1, .fr (.rt upd_same (e1.upd hp nE)), nd, s.nw, by rw [hide_upd_in pin]; exact s.sm, fun a o e => ?_, fun c hc => ?_⟩
      · rw [upd_ne (ne_of_none e hb)]
        exact s.gr a o e
      · rcases List.mem_cons.mp hc with rfl | hc
        · exact ⟨F1, by rw [hide_upd_in pin]; exact r1⟩
        rcases List.mem_cons.mp hc with rfl | hm
        · exact ⟨p, vs, _, F0, rfl, rfl, upd_same, by rw [hide_upd_in pin]; exact r0⟩
        · have z := s.sn c (List.mem_cons_of_mem _ hm)
          have nbc := nb c hm
          obtain ⟨v', k', d'⟩ := c
          cases k' with
          | un => trivial
          | fr => obtain ⟨Fz, z⟩ := z; exact ⟨Fz, by rw [hide_upd_in pin]; exact z⟩
          | br => exact absurd rfl nbc
          | ro => show Dp K (hide (upd H p (.lst vs)) _) v' d'; rw [hide_upd_in pin]; exact z
          | rt =>
            obtain ⟨a, ws, dz, Fz, g1, g2, g3, g4⟩ := z
            refine ⟨a, ws, dz, Fz, g1, g2, ?_, by rw [hide_upd_in pin]; exact g4⟩
            have na : a ≠ p := by
              rintro rfl
              exact nE (rt_mem e1 _ hm rfl _ g1)
            rw [upd_ne na]
            exact g3
          | io => trivial
  | fr => cases hk
  | br => cases hk
  | ro => cases hk
  | io => cases hk
theorem popOk_ne {k : Kd} (h : popOk k = true) : k ≠ .br := by rintro rfl; cases h
theorem lift_popG {i : Nat} {g : TG} {wg : WG} (lg : LiftG K g wg) : LiftS K (tAsg (tBM0 K "list" rPop (tVar i)) g) (wPopG i wg) := by
  intro G H σ ρ L D κ hb nb ok s h q
  unfold wPopG at h
  split at h
  · rename_i k ds e
    obtain ⟨hk, ds0, d, rfl, h⟩ := h
    obtain ⟨v, e1, p1, ok2, f⟩ := (env_drB ok).1.slot (dr_get e (popOk_ne hk))
    have s1 : St0 K H G (⟨v, k, .list (ds0 ++ [d])⟩ :: (lv σ ((drB ρ).set i none) ++ L)) := (s.drB (cs := []) ok).perm (p1.append_right L)
    have nb2 : NoBr (lv σ ((drB ρ).set i none) ++ L) := fun c hc' => by
      rcases List.mem_append.mp hc' with h | h
      · exact nb_drB ok c (p1.symm.subset (List.mem_cons_of_mem _ h))
      · exact nb c h
    obtain ⟨p, rfl⟩ := dp_ref_l s1.dp
    obtain ⟨vs, u, hp, s2⟩ := s1.popL hk nb2 (by rw [hb]; rfl)
    refine ⟨_, e1, .inl ⟨rfl, _, SqL.of hp⟩, p, _, u, rfl, rfl, hp, by simp, ?_⟩
    rw [List.dropLast_concat]
    obtain ⟨ok3, p3⟩ := f k (.list ds0) (by cases k <;> first | rfl | cases hk)
    exact lg G _ σ _ L u (popK k) d _ _ ok3 (s2.perm ((p3.append_right L).cons _)) h fun σ2 H2 ρ2 ok4 s4 h4 => q.nx σ2 H2 ρ2 ok4 s4 h4
  · exact h.elim
/-! ### what a statement does with a call that is handed things of one's own -/
theorem lift_asgM {te : TE} {wa : WE} {tg : TG} {wg : WG} (la : LiftM K te wa) (lg : LiftG K tg wg) : LiftS K (tAsg te tg) (wAsg wa wg) := fun G H σ ρ L D κ hb nb ok s h q =>
  la G H σ ρ L _ _ hb nb ok s h fun v H1 ρ1 k d ok1 s1 h1 => lg G H1 σ ρ1 L v k d _ _ ok1 s1 h1 fun σ2 H2 ρ2 ok2 s2 h2 => q.nx σ2 H2 ρ2 ok2 s2 h2
theorem lift_retC {te : TE} {wa : WE} (l : LiftM K te wa) : LiftS K (tRet te) (wRet wa) := fun G H σ ρ L D κ hb nb ok s h q => l G H σ ρ L _ _ hb nb ok s h fun v H1 ρ1 k d ok1 s1 h1 => q.rt v H1 k d s1.noenv h1
theorem lift_dropC {te : TE} {wa : WE} (l : LiftM K te wa) : LiftS K (tDrop te) (wDrop wa) := fun G H σ ρ L D κ hb nb ok s h q => l G H σ ρ L _ _ hb nb ok s h fun v H1 ρ1 k d ok1 s1 h1 => q.nx σ H1 ρ1 ok1 s1.drop h1
/-- xs.append(f(..)) -/
theorem lift_appC {i : Nat} {te : TE} {wa : WE} (l : LiftM K te wa) : LiftS K (tDrop (tBM K "list" rAppend (tVar i) (tCons te tNil))) (wChg i (wCons wa wNil) fApp) := by
  intro G H σ ρ L D κ hb nb ok s h q
  obtain ⟨h0, h⟩ := h
  obtain ⟨p, e0, ty⟩ := isLst_ty ok s h0
  refine ⟨_, e0, ty, ?_⟩
  refine l G H σ ρ L _ _ hb nb ok s h fun v H1 ρ1 k d ok1 s1 h1 => ?_
  have h1 : (match ρ1[i]? with
    | some (some (k0, .list ds)) => ownK k0 = true ∧ fApp ds [(k, d)] fun ds' => wApp k0 [(k, d)] fun k' => κ.nx ((drB ρ1).set i (some (k', .list ds')))
    | _ => False) := h1
  split at h1
  · rename_i k0 ds e
    obtain ⟨hk, h1⟩ := h1
    have s2 : St0 K H1 G ([⟨v, k, d⟩] ++ (lv σ ρ1 ++ L)) := s1
    obtain ⟨p', ws, e2, hp, hl, _, fin⟩ := St0.own (cs := [⟨v, k, d⟩]) (us := [v]) (es := [(k, d)]) (env_drB ok1).1 (dr_get e (ownK_ne hk)) (.cons .nil) (s2.drB ok1) hk nb hb (nb_drB ok1)
    rw [e0] at e2
    cases e2
    obtain ⟨hz, h1⟩ := h1
    obtain ⟨k', q1, ok2, s3⟩ := fin (ws ++ [v]) (ds ++ [d]) sel_app _ h1
    exact ⟨p, ws, v, rfl, rfl, hp, by rw [hl]; exact hz, q.nx σ _ _ ok2 s3 q1⟩
  · exact h1.elim
/-! ### a def that changes one of its things: what it hands back -/
def wRetM (i : Nat) (wa : WE) : WS := fun κ ρ => wa ρ fun ρ1 k d => match ρ1[i]? with
  | some (some (.io, d0)) => κ.rm k d d0
  | _ => False
theorem St0.ioV {G : Gh} {L : List Cel} {v : V} {d : PyData} (s : St0 K H G (⟨v, .io, d⟩ :: L)) : v = G.f.v := s.ioUn.1
theorem lift_retM {i : Nat} {te : TE} {wa : WE} (l : LiftE K te wa) : LiftS K (tRet te) (wRetM i wa) := by
  intro G H σ ρ L D κ hb nb ok s h q
  refine l G H σ ρ L _ _ ok s h fun v H1 ρ1 k d ok1 s1 h1 => ?_
  split at h1
  · rename_i d0 e
    obtain ⟨u, e1, p1, ok2, f⟩ := ok1.slot e
    have s2 : St0 K H1 G (⟨v, k, d⟩ :: ⟨u, .io, d0⟩ :: (lv σ (ρ1.set i none) ++ L)) := s1.perm ((p1.append_right L).cons _)
    have eu := (s2.perm (.swap _ _ _)).ioV
    subst eu
    refine q.rm v H1 k d d0 ?_ h1
    exact s2.sub (M := lv σ (ρ1.set i none)) (by
      refine (List.Perm.cons _ List.perm_middle.symm).trans ?_
      exact List.perm_middle.symm)
  · exact h1.elim
theorem lift_retCM {i : Nat} {te : TE} {wa : WE} (l : LiftM K te wa) : LiftS K (tRet te) (wRetM i wa) := by
  intro G H σ ρ L D κ hb nb ok s h q
  refine l G H σ ρ L _ _ hb nb ok s h fun v H1 ρ1 k d ok1 s1 h1 => ?_
  split at h1
  · rename_i d0 e
    obtain ⟨u, e1, p1, ok2, f⟩ := ok1.slot e
    have s2 : St0 K H1 G (⟨v, k, d⟩ :: ⟨u, .io, d0⟩ :: (lv σ (ρ1.set i none) ++ L)) := s1.perm ((p1.append_right L).cons _)
    have eu := (s2.perm (.swap _ _ _)).ioV
    subst eu
    refine q.rm v H1 k d d0 ?_ h1
    exact s2.sub (M := lv σ (ρ1.set i none)) (by
      refine (List.Perm.cons _ List.perm_middle.symm).trans ?_
      exact List.perm_middle.symm)
  · exact h1.elim
/-! ### x.f = value, f the next attribute -/
def wObS (c : ClD) (n : Nat) (D : PyData) (K : List PyData → Prop) (_ : Tg K) : Prop := ∃ ds, D = obD c ds ∧ ds.length = n ∧ K ds
def wSat (c : ClD) (n i : Nat) (wa : WE) : WS := fun κ ρ => wa ρ fun ρ1 k d => match ρ1[i]? with
  | some (some (k0, D)) => ioU k0 = true ∧ allUn [(k, d)] = true ∧ wObS c n D (fun ds => κ.nx ((drB ρ1).set i (some (k0, obD c (ds ++ [d]))))) .mk
  | _ => False
theorem putF_new : ∀ {fs : List (Str × V)} {f : Str} {v : V}, f ∉ fs.map (·.1) → putF f v fs = fs ++ [(f, v)]
  | [], _, _, _ => rfl
  | (g, x) :: r, f, v, h => by
    rw [List.map_cons, List.mem_cons, not_or] at h
    show (if g = f then (g, v) :: r else (g, x) :: putF f v r) = _
    rw [if_neg (fun e => h.1 e.symm), putF_new h.2]
    rfl
theorem take_no {ns : List Str} (nd : ns.Nodup) {n : Nat} {f : Str} (h : ns[n]? = some f) : f ∉ ns.take n := fun z => by
  obtain ⟨hn, e⟩ := List.getElem?_eq_some_iff.mp h
  obtain ⟨j, hj, ej⟩ := List.mem_iff_getElem.mp z
  rw [List.length_take] at hj
  rw [List.getElem_take] at ej
  have := (List.getElem_inj (h₀ := by omega) (h₁ := hn) nd).mp (ej.trans e.symm)
  omega
theorem St0.setF {G : Gh} {L : List Cel} {y v : V} {c : ClD} {ds : List PyData} {d : PyData} {f : Str} (s : St0 K H G (⟨y, .un, d⟩ :: ⟨v, .un, obD c ds⟩ :: L)) (nd0 : c.ns.Nodup) (hf : c.ns[ds.length]? = some f) (nb : NoBr L) (hb : G.b = Hp0) :
    ∃ a C dx fs, v = .ref a ∧ H a = some (.ins C dx fs) ∧ ObC K c.nm c.ns C ∧ fs.length = ds.length ∧ f ∉ fs.map (·.1) ∧ St0 K (upd H a (.ins C dx (putF f y fs))) G (⟨v, .un, obD c (ds ++ [d])⟩ :: L) := by
  obtain ⟨E, s⟩ := s
  have nd := s.nd
  cases id s.ex with
  | @un _ _ F1 _ _ r1 e0 =>
    cases e0 with
    | @un _ _ _ _ E1 r2 e1 =>
      obtain ⟨a, C, dx, fs, F2, rfl, h1, h2, h3, rfl, ra⟩ := rx_ob r2
      have hl : fs.length = ds.length := by
        have := rxAll_len ra
        rwa [List.length_map] at this
      have nf : f ∉ fs.map (·.1) := by
        rw [h2, hl]
        exact take_no nd0 hf
      have hn : (F1 ++ (a :: F2 ++ E1)).Nodup := nd
      have pm : ((a :: (F2 ++ F1)) ++ E1).Perm (F1 ++ (a :: F2 ++ E1)) := by
        have e1 : ((a :: (F2 ++ F1)) ++ E1) = (a :: F2) ++ (F1 ++ E1) := by simp
        rw [e1]
        exact perm3
      have nd2 := pm.nodup_iff.mpr hn
      have np := (List.nodup_cons.mp (show (a :: ((F2 ++ F1) ++ E1)).Nodup from nd2)).1
      have n1 : a ∉ F1 := fun z => np (by simp [z])
      have n2 : a ∉ F2 := fun z => np (by simp [z])
      have nE : a ∉ E1 := fun z => np (by simp [z])
      have hsub : ∀ b, b ∈ (a :: (F2 ++ F1)) ++ E1 → b ∈ F1 ++ (a :: F2 ++ E1) := fun b hb => pm.subset hb
      have pin : a ∈ (a :: (F2 ++ F1)) ++ E1 := by simp
      refine ⟨a, C, dx, fs, rfl, h1, h3, hl, nf, (a :: (F2 ++ F1)) ++ E1, .un ?_ (e1.upd0 h1 rfl nE), nd2, fun q hq => s.nw q (hsub q hq), ?_, (by rw [hb]; exact fun _ _ q => by cases q), fun c hc => ?_⟩
      · refine .ob (fs := putF f y fs) upd_same h3 ?_ ?_
        · rw [putF_new nf, List.map_append, h2, List.length_append, List.length_singleton]
          have : c.ns.take (fs.length + 1) = c.ns.take fs.length ++ [f] := by
            rw [List.take_add_one, hl, hf]
            rfl
          rw [this]
          rfl
        · rw [putF_new nf, List.map_append]
          have := rxAll_app (ra.upd0 (o := .ins C dx (putF f y fs)) h1 rfl n2) (RxAll.cons (r1.upd0 (o := .ins C dx (putF f y fs)) h1 rfl n1) .nil)
          rw [List.append_nil] at this
          rw [putF_new nf] at this
          exact this
      · rw [hide_upd_in pin]
        exact s.sm.trans (hide_mono hsub)
      · rcases List.mem_cons.mp hc with rfl | hm
        · trivial
        · have z := (s.sn c (List.mem_cons_of_mem _ (List.mem_cons_of_mem _ hm))).mono hsub
          have nbc := nb c hm
          obtain ⟨v', k', d'⟩ := c
          cases k' with
          | un => trivial
          | fr => obtain ⟨Fz, z⟩ := z; exact ⟨Fz, by rw [hide_upd_in pin]; exact z⟩
          | br => exact absurd rfl nbc
          | ro => show Dp K (hide (upd H a _) _) v' d'; rw [hide_upd_in pin]; exact z
          | rt =>
            obtain ⟨b, ws, dz, Fz, g1, g2, g3, g4⟩ := z
            refine ⟨b, ws, dz, Fz, g1, g2, ?_, by rw [hide_upd_in pin]; exact g4⟩
            have na : b ≠ a := by
              rintro rfl
              exact nE (rt_mem e1 _ hm rfl _ g1)
            rw [upd_ne na]
            exact g3
          | io => trivial
theorem lift_sat {c : ClD} {n i : Nat} {te : TE} {wa : WE} {f : Str} (nd : c.ns.Nodup) (hf : c.ns[n]? = some f) (hz : c.ns.length < 1000) (la : LiftE K te wa) : LiftS K (sFld K (tVar i) te f) (wSat c n i wa) := by
  intro G H σ ρ L D κ hb nb ok s h q
  refine la G H σ ρ L _ _ ok s h fun y H1 ρ1 k d ok1 s1 h1 => ?_
  split at h1
  · rename_i k0 D0 e
    obtain ⟨hk, ha, ds, rfl, hn, h1⟩ := h1
    subst hn
    have s2 : St0 K H1 G (⟨y, .un, d⟩ :: (lv σ ρ1 ++ L)) := by
      unfold allUn at ha
      rw [List.all_cons, Bool.and_eq_true] at ha
      rcases Bool.or_eq_true_iff.mp ha.1 with z | z
      · cases k with
        | un => exact s1
        | _ => cases z
      · exact s1.flatUn z
    have s3 := s2.drB (cs := [⟨y, .un, d⟩]) ok1
    obtain ⟨v, e1, p1, ok2, g⟩ := (env_drB ok1).1.slot (dr_get e (ioU_ne hk))
    have s4 : St0 K H1 G (⟨v, k0, obD c ds⟩ :: ⟨y, .un, d⟩ :: (lv σ ((drB ρ1).set i none) ++ L)) := by
      have z : St0 K H1 G (⟨y, .un, d⟩ :: (lv σ (drB ρ1) ++ L)) := s3
      exact (z.perm ((p1.append_right L).cons _)).perm (.swap _ _ _)
    obtain ⟨s5, bk⟩ := s4.toUn hk
    have nb2 : NoBr (lv σ ((drB ρ1).set i none) ++ L) := fun c hc' => by
      rcases List.mem_append.mp hc' with h | h
      · exact nb_drB ok1 c (p1.symm.subset (List.mem_cons_of_mem _ h))
      · exact nb c h
    obtain ⟨a, C, dx, fs, rfl, g1, g2, g3, g4, s6⟩ := (s5.perm (.swap _ _ _)).setF nd hf nb2 hb
    have hlt : ds.length < c.ns.length := (List.getElem?_eq_some_iff.mp hf).1
    refine ⟨_, e1, a, C, dx, fs, rfl, g1, g2.cl, g2.na f (List.mem_of_getElem? hf), by omega, ?_⟩
    have s7 : St0 K (upd H1 a (.ins C dx (putF f y fs))) G (⟨.ref a, k0, obD c (ds ++ [d])⟩ :: (lv σ ((drB ρ1).set i none) ++ L)) := by
      cases k0 with
      | un => exact s6
      | io => exact s6.unIo s4.ioUn.1
      | fr => cases hk
      | br => cases hk
      | ro => cases hk
      | rt => cases hk
    obtain ⟨ok3, p3⟩ := g k0 (obD c (ds ++ [d])) (ioU_st hk)
    exact q.nx σ _ _ ok3 (s7.perm (p3.append_right L)) h1
  · exact h1.elim
end
end PL
namespace PL
open PySem PySem.Spec L2

/-! ### two names at once -/
def wPar (i j : Nat) (was : WA) : WS := fun κ ρ => was ρ fun ρ1 ds => match ds with
  | [(k, d), (l, e)] => stK k = true ∧ stK l = true ∧ κ.nx ((ρ1.set i (some (k, d))).set j (some (l, e)))
  | _ => False
theorem lift_par {K : PySem.W.Frag} {i j : Nat} {t : TA} {was : WA} (l : LiftA K t was) : LiftS K (tPar i j t) (wPar i j was) := by
  intro G H σ ρ L D κ hb nb ok s h q
  refine l G H σ ρ L _ _ ok s h fun vs H1 ρ1 ds cs ok1 hc s1 h1 => ?_
  split at h1
  · obtain ⟨k1, k2, h1⟩ := h1
    cases hc with
    | cons hc =>
      cases hc with
      | cons hc =>
        cases hc
        obtain ⟨a, b⟩ := put2 (i := i) (j := j) k1 k2 ok1 s1
        exact ⟨_, _, rfl, q.nx _ _ _ a b h1⟩
  · exact h1.elim
/-! ### three names at once -/
def wPar3 (i j n : Nat) (was : WA) : WS := fun κ ρ => was ρ fun ρ1 ds => match ds with
  | [(k, d), (l, e), (m, f)] => stK k = true ∧ stK l = true ∧ stK m = true ∧ κ.nx (((ρ1.set i (some (k, d))).set j (some (l, e))).set n (some (m, f)))
  | _ => False
theorem put3 {K : PySem.W.Frag} {H : Hp} {G : Gh} {σ : St} {ρ : Rho} {L : List Cel} {i j n : Nat} {v w u : V} {k l m : Kd} {d e f : PyData} (k1 : stK k = true) (k2 : stK l = true) (k3 : stK m = true) (ok : EnvOk σ ρ) (s : St0 K H G (⟨v, k, d⟩ :: ⟨w, l, e⟩ :: ⟨u, m, f⟩ :: (lv σ ρ ++ L))) :
    EnvOk (((σ.set i (some v)).set j (some w)).set n (some u)) (((ρ.set i (some (k, d))).set j (some (l, e))).set n (some (m, f))) ∧ St0 K H G (lv (((σ.set i (some v)).set j (some w)).set n (some u)) (((ρ.set i (some (k, d))).set j (some (l, e))).set n (some (m, f))) ++ L) := by
  have s2 : St0 K H G (⟨v, k, d⟩ :: ⟨w, l, e⟩ :: (lv σ ρ ++ (⟨u, m, f⟩ :: L))) := s.perm (List.Perm.cons _ (List.Perm.cons _ List.perm_middle.symm))
  obtain ⟨ok2, s3⟩ := put2 (i := i) (j := j) k1 k2 ok s2
  exact ⟨(ok2.put n u m f k3).1, St0.put k3 ok2 (s3.perm List.perm_middle)⟩
theorem lift_par3 {K : PySem.W.Frag} {i j n : Nat} {t : TA} {was : WA} (l : LiftA K t was) : LiftS K (tPar3 i j n t) (wPar3 i j n was) := by
  intro G H σ ρ L D κ hb nb ok s h q
  refine l G H σ ρ L _ _ ok s h fun vs H1 ρ1 ds cs ok1 hc s1 h1 => ?_
  split at h1
  · obtain ⟨k1, k2, k3, h1⟩ := h1
    cases hc with
    | cons hc =>
      cases hc with
      | cons hc =>
        cases hc with
        | cons hc =>
          cases hc
          obtain ⟨a, b⟩ := put3 (i := i) (j := j) (n := n) k1 k2 k3 ok1 s1
          exact ⟨_, _, _, rfl, q.nx _ _ _ a b h1⟩
  · exact h1.elim
/-! ### calls that are handed things of one's own -/
inductive PC where
  | mv (f : Str) (n : Nat) (wf : WF) (l : PXs)
  | io (i : Nat) (f : Str) (n : Nat) (wf : WF) (l1 l2 : PXs)
def appA : PXs → PXs → PXs
  | .nil, l => l
  | .cons a r, l => .cons a (appA r l)
def lenA : PXs → Nat
  | .nil => 0
  | .cons _ r => lenA r + 1
theorem rdA_app {K : PySem.W.Frag} : ∀ (l1 l : PXs), rdA K (appA l1 l) = fun σ H Q => rdA K l1 σ H fun us H1 => rdA K l σ H1 fun ws H2 => Q (us ++ ws) H2
  | .nil, l => rfl
  | .cons a r, l => by
    show tCons (rd K a).1 (rdA K (appA r l)) = _
    rw [rdA_app r l]
    rfl
def rdC' (K : PySem.W.Frag) : PC → TE
  | .mv f n wf l => tCall (spM K none n wf) [] E0 (rdA K l)
  | .io i f n wf l1 l2 => tCall (spM K (some (lenA l1)) n wf) [] E0 (rdA K (appA l1 (.cons (.var i) l2)))
def wPC : PC → WE
  | .mv f n wf l => wMvC n wf (wA l)
  | .io i f n wf l1 l2 => wIoC i (lenA l1) n wf (wA l1) (wA l2)
def okC : PC → Bool
  | .mv f n wf l => okA l
  | .io i f n wf l1 l2 => okA l1 && okA l2
theorem liftC' {K : PySem.W.Frag} : ∀ c : PC, okC c = true → LiftM K (rdC' K c) (wPC c)
  | .mv f n wf l, h => lift_mvC (liftA l h)
  | .io i f n wf l1 l2, h => by
    have := lift_ioC (K := K) (i := i) (p := lenA l1) (n := n) (wf := wf) (E := E0) (liftA (K := K) l1 (and2 h).1) (liftA l2 (and2 h).2)
    show LiftM K (tCall (spM K (some (lenA l1)) n wf) [] E0 (rdA K (appA l1 (.cons (.var i) l2)))) _
    rw [rdA_app]
    exact this
/-! ### statements -/
/-- x[j].. (the innermost index last) -/
def pthX (i : Nat) : List PX → PX
  | [] => .var i
  | j :: r => .ix (pthX i r) j
def wPth (i : Nat) : List PX → WPt
  | [] => wP0 i
  | j :: r => wPix (wPth i r) (wX j).1
theorem liftPth {K : PySem.W.Frag} (i : Nat) : ∀ js : List PX, okX (pthX i js) = true → LiftPt K i (rd K (pthX i js)).1 (wPth i js)
  | [], _ => lift_p0 i
  | j :: r, h => lift_pix (liftPth i r (and2 h).1) (liftX j (and2 h).2).1
mutual
inductive PSt where
  | skip | never
  | ret (a : PX) | retN
  | asg (g : PGt) (a : PX)
  | six (i : Nat) (ix a : PX)
  | app (i : Nat) (a : PX) | ext (i : Nat) (a : PX) | clr (i : Nat) | pop0 (i : Nat)
  | ins (i : Nat) (a b : PX) | popA (i : Nat) (a : PX)
  | appA (i j : Nat) | asgA (i j : Nat) | lcl (x r k : Nat)
  | appP (i : Nat) (js : List PX) (a : PX) | popP (i : Nat) (js : List PX) (a : PX) | insP (i : Nat) (js : List PX) (a b : PX) | clrP (i : Nat) (js : List PX)
  | exp (a : PX)
  | par (i j : Nat) (a b : PX)
  | par3 (i j l : Nat) (a b c : PX)
  | ifs (c : PX) (a b : PSs)
  | for (it : PXi) (g : PGt) (b : PSs)
  | whl (c : PX) (b : PSs)
  | popG (g : PGt) (i : Nat)
  | asgC (g : PGt) (c : PC) | retC (c : PC) | expC (c : PC) | appC (x : Nat) (c : PC)
  | retM (i : Nat) (a : PX) | retCM (i : Nat) (c : PC)
  | sat (c : ClD) (n i : Nat) (a : PX)
  | xt (x : ExtS) (l : PXs) (b : PSs)
inductive PSs where
  | nil
  | cons (s : PSt) (l : PSs)
end
section
variable (K : PySem.W.Frag)
mutual
def rdS : PSt → TS
  | .skip => tNext
  | .never => tNever
  | .ret a => tRet (rd K a).1
  | .retN => tRetN
  | .asg g a => tAsg (rd K a).1 (rdG K g)
  | .six i ix a => tAsg (rd K a).1 (gSub (tVar i) (rd K ix).1 rSetL)
  | .app i a => tDrop (tBM K "list" rAppend (tVar i) (tCons (rd K a).1 tNil))
  | .ext i a => tDrop (tBM K "list" rExtend (tVar i) (tCons (rd K a).1 tNil))
  | .clr i => tDrop (tBM0 K "list" rClear (tVar i))
  | .pop0 i => tDrop (tBM0 K "list" rPop (tVar i))
  | .ins i a b => tDrop (tBM K "list" tIns (tVar i) (tCons (rd K a).1 (tCons (rd K b).1 tNil)))
  | .popA i a => tDrop (tBM K "list" rPopAt (tVar i) (tCons (rd K a).1 tNil))
  | .appA i j => tDrop (tBM K "list" rAppend (tVar i) (tCons (tVar j) tNil))
  | .asgA i j => tAsg (tLst (tCons (tVar j) tNil)) (gName i)
  | .lcl x r k => tLcl K x r k
  | .appP i js a => tDrop (tBM K "list" rAppend (rd K (pthX i js)).1 (tDet K (tCons (rd K a).1 tNil)))
  | .clrP i js => tDrop (tBM0 K "list" rClear (tDetE K (rd K (pthX i js)).1))
  | .popP i js a => tDrop (tBM K "list" rPopAt (rd K (pthX i js)).1 (tDet K (tCons (rd K a).1 tNil)))
  | .insP i js a b => tDrop (tBM K "list" tIns (rd K (pthX i js)).1 (tDet K (tCons (rd K a).1 (tCons (rd K b).1 tNil))))
  | .exp a => tDrop (rd K a).1
  | .par i j a b => tPar i j (tCons (rd K a).1 (tCons (rd K b).1 tNil))
  | .par3 i j l a b c => tPar3 i j l (tCons (rd K a).1 (tCons (rd K b).1 (tCons (rd K c).1 tNil)))
  | .ifs c a b => tIfS (rd K c).2 (rdSs a) (rdSs b)
  | .for it g b => tFor (rdI K it) (rdG K g) (rdSs b)
  | .whl c b => tWhile (rd K c).2 (rdSs b)
  | .popG g i => tAsg (tBM0 K "list" rPop (tVar i)) (rdG K g)
  | .asgC g c => tAsg (rdC' K c) (rdG K g)
  | .retC c => tRet (rdC' K c)
  | .expC c => tDrop (rdC' K c)
  | .appC x c => tDrop (tBM K "list" rAppend (tVar x) (tCons (rdC' K c) tNil))
  | .retM _ a => tRet (rd K a).1
  | .retCM _ c => tRet (rdC' K c)
  | .sat c n i a => sFld K (tVar i) (rd K a).1 (c.ns.getD n "")
  | .xt x l b => x.t K (rdL K l) (rdSs b)
def rdSs : PSs → TS
  | .nil => tNext
  | .cons s l => tSeq (rdS s) (rdSs l)
end
end
mutual
def wS : PSt → WS
  | .skip => wSkip
  | .never => wNever
  | .ret a => wRet (wX a).1
  | .retN => wRetN
  | .asg g a => wAsg (wX a).1 (wG g)
  | .six i ix a => wSet i (wX a).1 (wX ix).1
  | .app i a => wChg i (wCons (wX a).1 wNil) fApp
  | .ext i a => wChg i (wCons (wX a).1 wNil) fExt
  | .clr i => wChg i wNil fClr
  | .pop0 i => wChg i wNil fPop0
  | .ins i a b => wChg i (wCons (wX a).1 (wCons (wX b).1 wNil)) fIns
  | .popA i a => wChg i (wCons (wX a).1 wNil) fPopA
  | .appA i j => wAppA i j
  | .asgA i j => wAsgA i j
  | .lcl x r k => wLcl x r k
  | .appP i js a => wChgP i (wPth i js) (wCons (wX a).1 wNil) fApp
  | .clrP i js => wChgP i (wPth i js) wNil fClr
  | .popP i js a => wChgP i (wPth i js) (wCons (wX a).1 wNil) fPopA
  | .insP i js a b => wChgP i (wPth i js) (wCons (wX a).1 (wCons (wX b).1 wNil)) fIns
  | .exp a => wDrop (wX a).1
  | .par i j a b => wPar i j (wCons (wX a).1 (wCons (wX b).1 wNil))
  | .par3 i j l a b c => wPar3 i j l (wCons (wX a).1 (wCons (wX b).1 (wCons (wX c).1 wNil)))
  | .ifs c a b => wIfS (wX c).2 (wSs a) (wSs b)
  | .for it g b => wFor (wI it) (wG g) (wSs b)
  | .whl c b => wWhile (wX c).2 (wSs b)
  | .popG g i => wPopG i (wG g)
  | .asgC g c => wAsg (wPC c) (wG g)
  | .retC c => wRet (wPC c)
  | .expC c => wDrop (wPC c)
  | .appC x c => wChg x (wCons (wPC c) wNil) fApp
  | .retM i a => wRetM i (wX a).1
  | .retCM i c => wRetM i (wPC c)
  | .sat c n i a => wSat c n i (wX a).1
  | .xt x l b => x.w (wL l) (wSs b)
def wSs : PSs → WS
  | .nil => wSkip
  | .cons s l => wSeq (wS s) (wSs l)
end
/-! what changes nothing that stood -/
mutual
def quS : PSt → Bool
  | .skip => true
  | .never => true
  | .ret _ => true
  | .retN => true
  | .asg _ _ => true
  | .exp _ => true
  | .ifs _ a b => quSs a && quSs b
  | .for it _ b => okI it && quSs b
  | _ => false
def quSs : PSs → Bool
  | .nil => true
  | .cons s l => quS s && quSs l
end
mutual
def okS : PSt → Bool
  | .ret a => okX a
  | .asg _ a => okX a
  | .six _ ix a => okX ix && okX a
  | .app _ a => okX a
  | .ext _ a => okX a
  | .ins _ a b => okX a && okX b
  | .popA _ a => okX a
  | .appP i js a => okX (pthX i js) && okX a
  | .clrP i js => okX (pthX i js)
  | .popP i js a => okX (pthX i js) && okX a
  | .insP i js a b => okX (pthX i js) && (okX a && okX b)
  | .exp a => okX a
  | .par _ _ a b => okX a && okX b
  | .par3 _ _ _ a b c => okX a && okX b && okX c
  | .ifs c a b => okX c && okSs a && okSs b
  | .for it _ b => (okI it && okSs b) || (okIq it && (quSs b && okSs b))
  | .whl c b => okX c && okSs b
  | .asgC _ c => okC c
  | .retC c => okC c
  | .expC c => okC c
  | .appC _ c => okC c
  | .retM _ a => okX a
  | .retCM _ c => okC c
  | .sat c n _ a => (decide c.ns.Nodup && (decide (n < c.ns.length) && decide (c.ns.length < 1000))) && okX a
  | .xt _ l b => okA l && okSs b
  | _ => true
def okSs : PSs → Bool
  | .nil => true
  | .cons s l => okS s && okSs l
end
section
variable {K : PySem.W.Frag}
mutual
theorem liftQt : ∀ s : PSt, quS s = true → okS s = true → LiftQ K (rdS K s) (wS s)
  | .skip, _, _ => lq_skip
  | .never, _, _ => lq_never
  | .ret a, _, h => lq_ret (liftX a h).1
  | .retN, _, _ => lq_retN
  | .asg g a, _, h => lq_asg (liftX a h).1 (liftG g)
  | .exp a, _, h => lq_drop (liftX a h).1
  | .ifs c a b, q, h => lq_ifS (liftX c (and2 (and2 h).1).1).2 (liftQs a (and2 q).1 (and2 (and2 h).1).2) (liftQs b (and2 q).2 (and2 h).2)
  | .for it g b, q, h => lq_for (liftI it (and2 q).1).i0 (liftG g) (liftQs b (and2 q).2 (by
      have h : ((okI it && okSs b) || (okIq it && (quSs b && okSs b))) = true := h
      rcases (Bool.or_eq_true _ _).mp h with z | z
      · exact (and2 z).2
      · exact (and2 (and2 z).2).2))
  | .six _ _ _, q, _ => Bool.noConfusion q
  | .app _ _, q, _ => Bool.noConfusion q
  | .ext _ _, q, _ => Bool.noConfusion q
  | .clr _, q, _ => Bool.noConfusion q
  | .pop0 _, q, _ => Bool.noConfusion q
  | .ins _ _ _, q, _ => Bool.noConfusion q
  | .popA _ _, q, _ => Bool.noConfusion q
  | .appA _ _, q, _ => Bool.noConfusion q
  | .asgA _ _, q, _ => Bool.noConfusion q
  | .lcl _ _ _, q, _ => Bool.noConfusion q
  | .appP _ _ _, q, _ => Bool.noConfusion q
  | .clrP _ _, q, _ => Bool.noConfusion q
  | .popP _ _ _, q, _ => Bool.noConfusion q
  | .insP _ _ _ _, q, _ => Bool.noConfusion q
  | .par _ _ _ _, q, _ => Bool.noConfusion q
  | .par3 _ _ _ _ _ _, q, _ => Bool.noConfusion q
  | .whl _ _, q, _ => Bool.noConfusion q
  | .popG _ _, q, _ => Bool.noConfusion q
  | .asgC _ _, q, _ => Bool.noConfusion q
  | .retC _, q, _ => Bool.noConfusion q
  | .expC _, q, _ => Bool.noConfusion q
  | .appC _ _, q, _ => Bool.noConfusion q
  | .retM _ _, q, _ => Bool.noConfusion q
  | .retCM _ _, q, _ => Bool.noConfusion q
  | .sat _ _ _ _, q, _ => Bool.noConfusion q
  | .xt _ _ _, q, _ => Bool.noConfusion q
theorem liftQs : ∀ l : PSs, quSs l = true → okSs l = true → LiftQ K (rdSs K l) (wSs l)
  | .nil, _, _ => lq_skip
  | .cons s l, q, h => lq_seq (liftQt s (and2 q).1 (and2 h).1) (liftQs l (and2 q).2 (and2 h).2)
end
theorem lift_forAny {it : PXi} {g : PGt} {b : PSs} (h : ((okI it && okSs b) || (okIq it && (quSs b && okSs b))) = true) (l : okSs b = true → LiftS K (rdSs K b) (wSs b)) : LiftS K (tFor (rdI K it) (rdG K g) (rdSs K b)) (wFor (wI it) (wG g) (wSs b)) := by
  rcases (Bool.or_eq_true _ _).mp h with z | z
  · exact lift_for (liftI it (and2 z).1) (liftG g) (l (and2 z).2)
  · exact (lq_for (liftIq it (and2 z).1) (liftG g) (liftQs b (and2 (and2 z).2).1 (and2 (and2 z).2).2)).s
mutual
theorem liftSt : ∀ s : PSt, okS s = true → LiftS K (rdS K s) (wS s)
  | .skip, _ => lift_skip
  | .never, _ => lift_never
  | .ret a, h => lift_ret (liftX a h).1
  | .retN, _ => lift_retN
  | .asg g a, h => lift_asg (liftX a h).1 (liftG g)
  | .six i ix a, h => lift_set (liftX a (and2 h).2).1 (liftX ix (and2 h).1).1
  | .app i a, h => lift_append (lift_cons (liftX a h).1 lift_nil)
  | .ext i a, h => lift_extend (lift_cons (liftX a h).1 lift_nil)
  | .clr i, _ => lift_clear
  | .pop0 i, _ => lift_pop0
  | .ins i a b, h => lift_insert (lift_cons (liftX a (and2 h).1).1 (lift_cons (liftX b (and2 h).2).1 lift_nil))
  | .popA i a, h => lift_popA (lift_cons (liftX a h).1 lift_nil)
  | .appA i j, _ => lift_appA
  | .asgA i j, _ => lift_asgA
  | .lcl x r k, _ => lift_lcl
  | .appP i js a, h => lift_chgP (liftPth i js (and2 h).1) (lift_cons (liftX a (and2 h).2).1 lift_nil) hr_app
  | .clrP i js, h => lift_clrP (liftPth i js h)
  | .popP i js a, h => lift_chgP (liftPth i js (and2 h).1) (lift_cons (liftX a (and2 h).2).1 lift_nil) hr_popA
  | .insP i js a b, h => lift_chgP (liftPth i js (and2 h).1) (lift_cons (liftX a (and2 (and2 h).2).1).1 (lift_cons (liftX b (and2 (and2 h).2).2).1 lift_nil)) hr_ins
  | .exp a, h => lift_drop (liftX a h).1
  | .par i j a b, h => lift_par (lift_cons (liftX a (and2 h).1).1 (lift_cons (liftX b (and2 h).2).1 lift_nil))
  | .par3 i j l a b c, h => lift_par3 (lift_cons (liftX a (and2 (and2 h).1).1).1 (lift_cons (liftX b (and2 (and2 h).1).2).1 (lift_cons (liftX c (and2 h).2).1 lift_nil)))
  | .ifs c a b, h => lift_ifS (liftX c (and2 (and2 h).1).1).2 (liftSs a (and2 (and2 h).1).2) (liftSs b (and2 h).2)
  | .for it g b, h => lift_forAny h (liftSs b)
  | .whl c b, h => lift_while (liftX c (and2 h).1).2 (liftSs b (and2 h).2)
  | .popG g i, _ => lift_popG (liftG g)
  | .asgC g c, h => lift_asgM (liftC' c h) (liftG g)
  | .retC c, h => lift_retC (liftC' c h)
  | .expC c, h => lift_dropC (liftC' c h)
  | .appC x c, h => lift_appC (liftC' c h)
  | .retM i a, h => lift_retM (liftX a h).1
  | .retCM i c, h => lift_retCM (liftC' c h)
  | .sat c n i a, h => lift_sat (of_decide_eq_true (and2 (and2 h).1).1) (by
      have hn : n < c.ns.length := of_decide_eq_true (and2 (and2 (and2 h).1).2).1
      rw [List.getD_eq_getElem?_getD, List.getElem?_eq_getElem hn]; rfl) (of_decide_eq_true (and2 (and2 (and2 h).1).2).2) (liftX a (and2 h).2).1
  | .xt x l b, h => x.lift (liftL l (and2 h).1) (liftSs b (and2 h).2)
theorem liftSs : ∀ l : PSs, okSs l = true → LiftS K (rdSs K l) (wSs l)
  | .nil, _ => lift_skip
  | .cons s l, h => lift_seq (liftSt s (and2 h).1) (liftSs l (and2 h).2)
end
end

/-! ### the matcher -/
def swC (sc : Scope) (x : Str) (px : Pos) (scope : Scope) (pos : Pos) : Bool :=
  (decide (lk sc x = some .local) && (px.line == pos.line)) && !(scope.names.any fun (n, k) => n == x && (k == .local || k == .cell))
def noO1 : PX → Bool
  | .lcO _ _ _ _ _ => false
  | .xt _ _ => false
  | .pur _ => false
  | _ => true
def noO : PX → Bool
  | .lcO _ _ _ _ _ => false
  | .xt _ _ => false
  | .pur b => noO1 b
  | _ => true
def lcB (sc : Scope) (x : Str) (px : Pos) (v : Expr) : Bool := match v with
  | .ListComp _ _ scope pos => swC sc x px scope pos || (!(px.line == pos.line))
  | _ => false
theorem sole_of {t e : Expr} {l : Nat} {env : Env} (h : swN e = true) : swapsWithSole [t] e l env = pure false := sw_of (t := some t) h
section
variable (m : Mc)
/-- what stands to the right of `name = ` -/
def mtV (sc : Scope) (i : Nat) (x : Str) (px : Pos) (a : PX) (v : Expr) : Bool :=
  nmB m i x && locB sc x && mtX m sc a v && (swN v || (lcB sc x px v && noO a))
def mtM (sc : Scope) (i : Nat) (nm : Str) (e : Expr) : Bool := match e with
  | .Call (.Attribute (.Name x _) y apos) _ [] cpos => nmB m i x && visB sc x && dbgB x && decide (y = nm) && (apos.endLine == cpos.line)
  | _ => false
def isSubB (e : Expr) : Bool := match e with
  | .Subscript _ _ _ => true
  | _ => false
/-- o[..].method(..): the text of what stands ahead of the dot -/
def mtR (sc : Scope) (p : PX) (nm : Str) (e : Expr) : Bool := match e with
  | .Call (.Attribute o y apos) _ [] cpos => isSubB o && mtX m sc p o && decide (y = nm) && (apos.endLine == cpos.line)
  | _ => false
abbrev NP := Str × Pos
def parE : Stmt → Option (NP × NP × (Nat × Pos) × NP × NP × (Nat × Pos) × Pos)
  | .Assign [.Tuple [.Name x px, .Name y py] kt pt] (.Tuple [.Name u pu, .Name v pv] k2 p2) p => some ((x, px), (y, py), (kt, pt), (u, pu), (v, pv), (k2, p2), p)
  | _ => none
theorem parE_eq {s : Stmt} {x y u v : Str} {px py pu pv pt p2 p : Pos} {kt k2 : Nat} (h : parE s = some ((x, px), (y, py), (kt, pt), (u, pu), (v, pv), (k2, p2), p)) :
    s = .Assign [.Tuple [.Name x px, .Name y py] kt pt] (.Tuple [.Name u pu, .Name v pv] k2 p2) p := by
  unfold parE at h
  split at h
  · cases h; rfl
  · cases h
def par3E : Stmt → Option ((NP × NP × NP) × (Nat × Pos) × (NP × NP × NP) × (Nat × Pos) × Pos)
  | .Assign [.Tuple [.Name x px, .Name y py, .Name z pz] kt pt] (.Tuple [.Name u pu, .Name v pv, .Name w pw] k2 p2) p => some (((x, px), (y, py), (z, pz)), (kt, pt), ((u, pu), (v, pv), (w, pw)), (k2, p2), p)
  | _ => none
theorem par3E_eq {s : Stmt} {x y z u v w : Str} {px py pz pu pv pw pt p2 p : Pos} {kt k2 : Nat} (h : par3E s = some (((x, px), (y, py), (z, pz)), (kt, pt), ((u, pu), (v, pv), (w, pw)), (k2, p2), p)) :
    s = .Assign [.Tuple [.Name x px, .Name y py, .Name z pz] kt pt] (.Tuple [.Name u pu, .Name v pv, .Name w pw] k2 p2) p := by
  unfold par3E at h
  split at h
  · cases h; rfl
  · cases h
def arg1 (e : Expr) : Option Expr := match e with
  | .Call _ [a] _ _ => some a
  | _ => none
def arg2 (e : Expr) : Option (Expr × Expr) := match e with
  | .Call _ [a, b] _ _ => some (a, b)
  | _ => none
def mtPC (sc : Scope) (c : PC) (e : Expr) : Bool := match c, e with
  | .mv f _ _ l, .Call (.Name x _) ys [] _ => decide (x = f) && gloB sc f && dbgB f && starsN ys && mtA m sc l ys
  | .io i f _ _ l1 l2, .Call (.Name x _) ys [] _ => decide (x = f) && gloB sc f && dbgB f && starsN ys && mtA m sc (appA l1 (.cons (.var i) l2)) ys
  | _, _ => false
def tgN (e : Expr) : Bool := match e with
  | .Name _ _ => true
  | .Tuple _ _ _ => true
  | _ => false
def arg0 (e : Expr) : Bool := match e with
  | .Call _ [] _ _ => true
  | _ => false
mutual
def mtS (sc : Scope) : PSt → Stmt → Bool
  | .skip, s => match s with
    | .Pass _ => true
    | .Expr (.Constant (.str _) _ _) _ => true
    | _ => false
  | .never, _ => true
  | .ret a, s => match s with
    | .Return (some e) _ => mtX m sc a e
    | _ => false
  | .retN, s => match s with
    | .Return none _ => true
    | _ => false
  | .asg g a, s => match s with
    | .Assign [tg] v _ => (match tg with
      | .Name x px => (match g with
        | .nm i => mtV m sc i x px a v
        | _ => false)
      | .Tuple _ _ _ => mtG m sc g tg && mtX m sc a v && swN v && !tupE v
      | _ => false)
    | _ => false
  | .six i ix a, s => match s with
    | .Assign [.Subscript (.Name x _) y _] v _ => nmB m i x && visB sc x && dbgB x && ixOk y && mtX m sc ix y && mtX m sc a v && swN v
    | _ => false
  | .app i a, s => match s with
    | .Expr e _ => mtM m sc i "append" e && (match arg1 e with
      | some y => starN y && mtX m sc a y
      | none => false)
    | _ => false
  | .ext i a, s => match s with
    | .Expr e _ => mtM m sc i "extend" e && (match arg1 e with
      | some y => starN y && mtX m sc a y
      | none => false)
    | _ => false
  | .pop0 i, s => match s with
    | .Expr e _ => mtM m sc i "pop" e && arg0 e
    | _ => false
  | .clr i, s => match s with
    | .Expr e _ => mtM m sc i "clear" e && arg0 e
    | _ => false
  | .ins i a b, s => match s with
    | .Expr e _ => mtM m sc i "insert" e && (match arg2 e with
      | some (y, z) => starN y && starN z && mtX m sc a y && mtX m sc b z
      | none => false)
    | _ => false
  | .popA i a, s => match s with
    | .Expr e _ => mtM m sc i "pop" e && (match arg1 e with
      | some y => starN y && mtX m sc a y
      | none => false)
    | _ => false
  | .appA i j, s => match s with
    | .Expr e _ => mtM m sc i "append" e && (match arg1 e with
      | some y => starN y && mtX m sc (.var j) y
      | none => false)
    | _ => false
  | .asgA i j, s => match s with
    | .Assign [tg] v _ => (match tg with
      | .Name x px => mtV m sc i x px (.lst (.cons (.var j) .nil)) v
      | _ => false)
    | _ => false
  | .lcl x r k, s => match s with
    | .For tg iter [.Expr e _] [] _ => mtI m sc (.li (.var x)) tg iter && mtG m sc (.nm r) tg && setN iter && (mtR m sc (.ix (.var r) (.int k)) "clear" e && arg0 e)
    | _ => false
  | .appP i js a, s => match s with
    | .Expr e _ => mtR m sc (pthX i js) "append" e && (match arg1 e with
      | some y => starN y && mtX m sc a y
      | none => false)
    | _ => false
  | .clrP i js, s => match s with
    | .Expr e _ => mtR m sc (pthX i js) "clear" e && arg0 e
    | _ => false
  | .popP i js a, s => match s with
    | .Expr e _ => mtR m sc (pthX i js) "pop" e && (match arg1 e with
      | some y => starN y && mtX m sc a y
      | none => false)
    | _ => false
  | .insP i js a b, s => match s with
    | .Expr e _ => mtR m sc (pthX i js) "insert" e && (match arg2 e with
      | some (y, z) => starN y && starN z && mtX m sc a y && mtX m sc b z
      | none => false)
    | _ => false
  | .par i j a b, s => match parE s with
    | some ((x, px), (y, py), _, (u, pu), (v, pv), _, _) => nmB m i x && nmB m j y && decide (lk sc x = some .local) && decide (lk sc y = some .local) && decide (x ≠ y) && (py.line == px.line) && dbgB u && mtX m sc a (.Name u pu) && mtX m sc b (.Name v pv)
    | none => false
  | .par3 i j l a b e, s => match par3E s with
    | some (((x, px), (y, py), (z, pz)), _, ((u, pu), (v, pv), (w, pw)), _, _) => (nmB m i x && (nmB m j y && nmB m l z)) && ((decide (lk sc x = some .local) && (decide (lk sc y = some .local) && decide (lk sc z = some .local))) && ((decide (x ≠ y) && (decide (x ≠ z) && decide (y ≠ z))) && (((py.line == px.line) && (pz.line == px.line)) && (dbgB u && (mtX m sc a (.Name u pu) && (mtX m sc b (.Name v pv) && mtX m sc e (.Name w pw)))))))
    | none => false
  | .exp a, s => match s with
    | .Expr e _ => mtX m sc a e && swN e
    | _ => false
  | .ifs c a b, s => match s with
    | .If t x y _ => mtX m sc c t && mtSs sc a x && mtSs sc b y
    | _ => false
  | .for it g b, s => match s with
    | .For tg iter body [] _ => mtI m sc it tg iter && mtG m sc g tg && setN iter && mtSs sc b body
    | _ => false
  | .whl c b, s => match s with
    | .While t body [] _ => mtX m sc c t && mtSs sc b body
    | _ => false
  | .popG g i, s => match s with
    | .Assign [tg] v _ => (tgN tg && mtG m sc g tg) && (mtM m sc i "pop" v && arg0 v)
    | _ => false
  | .asgC g c, s => match s with
    | .Assign [tg] v _ => (tgN tg && mtG m sc g tg) && mtPC m sc c v
    | _ => false
  | .retC c, s => match s with
    | .Return (some e) _ => mtPC m sc c e
    | _ => false
  | .expC c, s => match s with
    | .Expr e _ => mtPC m sc c e
    | _ => false
  | .appC x c, s => match s with
    | .Expr e _ => mtM m sc x "append" e && (match arg1 e with
      | some y => mtPC m sc c y
      | none => false)
    | _ => false
  | .retM _ a, s => match s with
    | .Return (some e) _ => mtX m sc a e
    | _ => false
  | .retCM _ c, s => match s with
    | .Return (some e) _ => mtPC m sc c e
    | _ => false
  | .sat c n i a, s => match s with
    | .Assign [.Attribute (.Name y _) g _] v _ => (nmB m i y && visB sc y && dbgB y) && decide (g = c.ns.getD n "") && mtX m sc a v
    | _ => false
  | .xt x l b, s => match x.mt m sc s with
    | some (es, r) => mtL m l es && mtSs sc b r
    | none => false
def mtSs (sc : Scope) : PSs → List Stmt → Bool
  | .nil, l => match l with
    | [] => true
    | _ => false
  | .cons s l, r => match r with
    | x :: r => mtS sc s x && mtSs sc l r
    | _ => false
end
end
section
variable (R : CT → Str → Nat → WF → Prop)
def cPC : PC → Prop
  | .mv f n wf l => R .mv f n wf ∧ cAs R l
  | .io i f n wf l1 l2 => R (.io (lenA l1)) f n wf ∧ cAs R (appA l1 (.cons (.var i) l2))
mutual
def cSt : PSt → Prop
  | .ret a => cOk R a
  | .asg _ a => cOk R a
  | .six _ ix a => cOk R ix ∧ cOk R a
  | .app _ a => cOk R a
  | .ext _ a => cOk R a
  | .ins _ a b => cOk R a ∧ cOk R b
  | .popA _ a => cOk R a
  | .appP i js a => cOk R (pthX i js) ∧ cOk R a
  | .clrP i js => cOk R (pthX i js)
  | .popP i js a => cOk R (pthX i js) ∧ cOk R a
  | .insP i js a b => cOk R (pthX i js) ∧ (cOk R a ∧ cOk R b)
  | .exp a => cOk R a
  | .par _ _ a b => cOk R a ∧ cOk R b
  | .par3 _ _ _ a b c => cOk R a ∧ cOk R b ∧ cOk R c
  | .ifs c a b => cOk R c ∧ cSs a ∧ cSs b
  | .for it _ b => cIt R it ∧ cSs b
  | .whl c b => cOk R c ∧ cSs b
  | .asgC _ c => cPC R c
  | .retC c => cPC R c
  | .expC c => cPC R c
  | .appC _ c => cPC R c
  | .retM _ a => cOk R a
  | .retCM _ c => cPC R c
  | .sat _ _ _ a => cOk R a
  | .xt x l b => (∀ c ∈ x.ct, R c.1 c.2.1 c.2.2.1 c.2.2.2) ∧ cAs R l ∧ cSs b
  | _ => True
def cSs : PSs → Prop
  | .nil => True
  | .cons s l => cSt s ∧ cSs l
end
end

/-! ### soundness -/
theorem tupS_of {t e : Expr} {env : Env} (h : tupE e = false) : swappedStores [t] e env = pure none := by
  cases e <;> first | exact ff h.symm | skip
  all_goals (cases t <;> rfl)
theorem tupS_sub {o i : Expr} {e : Expr} {p : Pos} {env : Env} : swappedStores [.Subscript o i p] e env = pure none := by
  cases e <;> rfl
theorem sw2_of {env : Env} {x y u v : Str} {px py pu pv pt p2 : Pos} {kt k2 : Nat} (hb : env.blockKind = .function) (hx : env.kindOf x = some .local) (hy : env.kindOf y = some .local) (hn : x ≠ y) (hl : (py.line == px.line) = true) (hu : u ≠ "__debug__") :
    swappedStores [.Tuple [.Name x px, .Name y py] kt pt] (.Tuple [.Name u pu, .Name v pv] k2 p2) env = pure (some [x, y]) := by
  have e1 : (y == x) = false := by
    cases q : (y == x) with
    | false => rfl
    | true => exact absurd (eq_of_beq q).symm hn
  have hl2 : py.line = px.line := eq_of_beq hl
  unfold swappedStores
  simp [hb, hx, hy, hl2, List.filterMap_cons, Expr.pos, List.eraseDups, List.eraseDupsBy, List.eraseDupsBy.loop, e1, foldedForSure, constantsAlone, hu]
theorem sw3_of {env : Env} {x y z u v w : Str} {px py pz pu pv pw pt p2 : Pos} {kt k2 : Nat} (hb : env.blockKind = .function) (hx : env.kindOf x = some .local) (hy : env.kindOf y = some .local) (hz : env.kindOf z = some .local) (hxy : x ≠ y) (hxz : x ≠ z) (hyz : y ≠ z) (hl : (py.line == px.line) = true) (hl3 : (pz.line == px.line) = true) (hu : u ≠ "__debug__") :
    swappedStores [.Tuple [.Name x px, .Name y py, .Name z pz] kt pt] (.Tuple [.Name u pu, .Name v pv, .Name w pw] k2 p2) env = pure (some [x, y, z]) := by
  have ne : ∀ {a b : Str}, a ≠ b → (b == a) = false := fun {a b} h => by
    cases q : (b == a) with
    | false => rfl
    | true => exact absurd (eq_of_beq q).symm h
  have e1 := ne hxy
  have e2 := ne hxz
  have e3 := ne hyz
  have hl2 : py.line = px.line := eq_of_beq hl
  have hl4 : pz.line = px.line := eq_of_beq hl3
  unfold swappedStores
  simp [hb, hx, hy, hz, hl2, hl4, List.filterMap_cons, Expr.pos, List.eraseDups, List.eraseDupsBy, List.eraseDupsBy.loop, e1, e2, e3, foldedForSure, constantsAlone, hu]
section
variable {m : Mc} {sc : Scope} {j : Nat} {X : Cx}
theorem sw_lc {x : Str} {px pos : Pos} {l : Nat} {elt : Expr} {gs : List Comprehension} {scope : Scope} {b : Bool} (hb : X.env.blockKind = .function)
    (h : ((X.env.kindOf x == some .local && px.line == pos.line) && !(scope.names.any fun (n, k) => n == x && (k == .local || k == .cell))) = b) :
    swapsWith (.ListComp elt gs scope pos) (some (.Name x px)) l X.env = pure b := by
  rw [← h]
  show (pure (X.env.blockKind == .function && X.env.kindOf x == some .local && px.line == pos.line && !(scope.names.any fun (n, k) => n == x && (k == .local || k == .cell))) : Sem Bool) = _
  rw [hb]
  simp only [Bool.and_assoc]
  rfl
theorem sound_asg1 (c : Cxs m sc j X) {i : Nat} {x : Str} {px pos : Pos} {a : PX} {v : Expr} (h : (nmB m i x && locB sc x && mtX m sc a v && (swN v || (lcB sc x px v && noO1 a))) = true) (k : cOk (CalR j X) a) :
    PS X (.Assign [.Name x px] v pos) (tAsg (rd X.K a).1 (gName i)) := by
  have h1 := and2 h
  have h2 := and2 h1.1
  have h3 := and2 h2.1
  have hl := c.loc h3.2
  have hN : X.N.Nodup := by rw [c.n]; exact c.nd
  have hx := c.nm h3.1
  have pe := soundX a c.toCxt v h2.2 k
  rcases Bool.or_eq_true_iff.mp h1.2 with q | qo
  · exact ps_set hN hx hl.1 pe.1 (sw_of q) hl.2
  · have hno := (and2 qo).2
    have q := (and2 qo).1
    cases v <;> first | exact ff q | skip
    rename_i elt gs scope lp
    have q0 : (swC sc x px scope lp || (!(px.line == lp.line))) = true := q
    rcases Bool.or_eq_true_iff.mp q0 with q1 | q1
    · cases a <;> first | exact ff h2.2 | exact ff hno | skip
      rename_i it g d e0 vs
      have hh : mtX m sc (.lc it g d e0 vs) (.ListComp elt gs scope lp) = true := h2.2
      rcases gs with _ | ⟨⟨tg, iter, ifs, as⟩, _ | ⟨_, _⟩⟩ <;> first | exact ff hh | skip
      have h : (decide (as = 0) && setN iter && blkC m.N sc scope (ownOf m vs) && mtI m sc it tg iter && mtG m scope g tg && mtC m scope d ifs && mtX m scope e0 elt) = true := hh
      have h6 := and2 h
      have h5 := and2 h6.1
      have h4 := and2 h5.1
      have h3 := and2 h4.1
      have h2 := and2 h3.1
      have h1 := and2 h2.1
      have e1 := of_decide_eq_true h1.1
      subst e1
      have hloc : X.env.kindOf x = some .local := by
        have z := of_decide_eq_true (and2 (and2 q1).1).1
        rcases c.kn _ _ z with z | ⟨z, _⟩
        · exact z
        · cases z
      have q := ps_setLc (spos := pos) (py := px) (pos := lp) (te := (rd X.K e0).1) (tt := rdC X.K d) (g := rdG X.K g) (wi := rdI X.K it) c.calm hN hx hloc
        (sw_lc c.bk (by rw [hloc]; exact Bool.and_eq_true_iff.mpr ⟨Bool.and_eq_true_iff.mpr ⟨rfl, (and2 (and2 q1).1).2⟩, (and2 q1).2⟩))
        (soundI it c.toCxt tg iter h3.2 k.1) (c.ok h2.2) (fun s H C cl fp => soundG (c.blk s H C cl fp) g tg h4.2)
        (fun s H C cl fp => soundC d (c.blk s H C cl fp) ifs h5.2 k.2.1) (fun s H C cl fp => (soundX e0 (c.blk s H C cl fp) elt h6.2 k.2.2).1) (set_of h1.2)
      rw [ownOf_snd] at q
      exact q
    · exact ps_set hN hx hl.1 pe.1 (sw_lc c.bk (by rw [not_t q1]; simp)) hl.2
theorem sound_asg (c : Cxs m sc j X) {i : Nat} {x : Str} {px pos : Pos} {a : PX} {v : Expr} (h : mtV m sc i x px a v = true) (k : cOk (CalR j X) a) :
    PS X (.Assign [.Name x px] v pos) (tAsg (rd X.K a).1 (gName i)) := by
  cases a <;> first | exact sound_asg1 c h k | skip
  rename_i b
  exact sound_asg1 (a := b) c h k
theorem sound_bm1 (c : Cxs m sc j X) {i : Nat} {nm : Str} {a : PX} {e : Expr} {pos : Pos} {id : String} {r : V → List V → Hp → VK → Prop}
    (slot : Slot "list" nm id) (hty : typeOf (.builtin id) = pure (.type "method_descriptor")) (hm : MtR X id r)
    (h : (mtM m sc i nm e && (match arg1 e with
      | some y => starN y && mtX m sc a y
      | none => false)) = true) (k : cOk (CalR j X) a) : PS X (.Expr e pos) (tDrop (tBM X.K "list" r (tVar i) (tCons (rd X.K a).1 tNil))) := by
  have h2 := (and2 h).2
  have h1 := (and2 h).1
  cases e <;> first | exact ff h1 | skip
  rename_i fn args kws cpos
  cases fn <;> first | exact ff h1 | skip
  rename_i o y apos
  cases o <;> first | exact ff h1 | skip
  rename_i x px
  rcases kws with _ | ⟨_, _⟩ <;> rcases args with _ | ⟨z, _ | ⟨_, _⟩⟩ <;> first | exact ff h1 | exact ff h2 | skip
  have h1 : (nmB m i x && visB sc x && dbgB x && decide (y = nm) && (apos.endLine == cpos.line)) = true := h1
  have h2 : (starN z && mtX m sc a z) = true := h2
  have g := and2 h1
  have g1 := and2 g.1
  have g2 := and2 g1.1
  have g3 := and2 g2.1
  have e1 := of_decide_eq_true g1.2
  subst e1
  have st := star_of (es := []) (env := X.env) (and2 h2).1
  exact ps_expr (pe_bm PySem.F.plainAttrs_list slot hty hm (pe_var (c.nm g3.1) (c.vis g3.2) (dbg1 g2.2) (dbg2 g2.2)) (pa_cons (soundX a c.toCxt z (and2 h2).2 k).1 pa_nil st) rfl (by rw [st]; rfl) g.2 st rfl) rfl
theorem sound_bm2 (c : Cxs m sc j X) {i : Nat} {nm : Str} {a b : PX} {e : Expr} {pos : Pos} {id : String} {r : V → List V → Hp → VK → Prop}
    (slot : Slot "list" nm id) (hty : typeOf (.builtin id) = pure (.type "method_descriptor")) (hm : MtR X id r)
    (h : (mtM m sc i nm e && (match arg2 e with
      | some (y, z) => starN y && starN z && mtX m sc a y && mtX m sc b z
      | none => false)) = true) (k : cOk (CalR j X) a ∧ cOk (CalR j X) b) : PS X (.Expr e pos) (tDrop (tBM X.K "list" r (tVar i) (tCons (rd X.K a).1 (tCons (rd X.K b).1 tNil)))) := by
  have h2 := (and2 h).2
  have h1 := (and2 h).1
  cases e <;> first | exact ff h1 | skip
  rename_i fn args kws cpos
  cases fn <;> first | exact ff h1 | skip
  rename_i o y apos
  cases o <;> first | exact ff h1 | skip
  rename_i x px
  rcases kws with _ | ⟨_, _⟩ <;> rcases args with _ | ⟨z, _ | ⟨u, _ | ⟨_, _⟩⟩⟩ <;> first | exact ff h1 | exact ff h2 | skip
  have h1 : (nmB m i x && visB sc x && dbgB x && decide (y = nm) && (apos.endLine == cpos.line)) = true := h1
  have h2 : (starN z && starN u && mtX m sc a z && mtX m sc b u) = true := h2
  have g := and2 h1
  have g1 := and2 g.1
  have g2 := and2 g1.1
  have g3 := and2 g2.1
  have e1 := of_decide_eq_true g1.2
  subst e1
  have f1 := and2 h2
  have f2 := and2 f1.1
  have f3 := and2 f2.1
  have st := star_of (es := [u]) (env := X.env) f3.1
  have su := star_of (es := []) (env := X.env) f3.2
  exact ps_expr (pe_bm PySem.F.plainAttrs_list slot hty hm (pe_var (c.nm g3.1) (c.vis g3.2) (dbg1 g2.2) (dbg2 g2.2)) (pa_cons (soundX a c.toCxt z f2.2 k.1).1 (pa_cons (soundX b c.toCxt u f1.2 k.2).1 pa_nil su) st) rfl (by rw [st, su]; rfl) g.2 st (by rw [su]; rfl)) rfl
theorem sound_bmP1 (c : Cxs m sc j X) {i : Nat} {js : List PX} {nm : Str} {a : PX} {e : Expr} {pos : Pos} {id : String} {r : V → List V → Hp → VK → Prop}
    (slot : Slot "list" nm id) (hty : typeOf (.builtin id) = pure (.type "method_descriptor")) (hm : MtR X id r)
    (h : (mtR m sc (pthX i js) nm e && (match arg1 e with
      | some y => starN y && mtX m sc a y
      | none => false)) = true) (k : cOk (CalR j X) (pthX i js) ∧ cOk (CalR j X) a) : PS X (.Expr e pos) (tDrop (tBM X.K "list" r (rd X.K (pthX i js)).1 (tDet X.K (tCons (rd X.K a).1 tNil)))) := by
  have h2 := (and2 h).2
  have h1 := (and2 h).1
  cases e <;> first | exact ff h1 | skip
  rename_i fn args kws cpos
  cases fn <;> first | exact ff h1 | skip
  rename_i o y apos
  rcases kws with _ | ⟨_, _⟩ <;> rcases args with _ | ⟨z, _ | ⟨_, _⟩⟩ <;> first | exact ff h1 | exact ff h2 | skip
  have h1 : (isSubB o && mtX m sc (pthX i js) o && decide (y = nm) && (apos.endLine == cpos.line)) = true := h1
  have h2 : (starN z && mtX m sc a z) = true := h2
  have g := and2 h1
  have g1 := and2 g.1
  have g2 := and2 g1.1
  have e1 := of_decide_eq_true g1.2
  subst e1
  have st := star_of (es := []) (env := X.env) (and2 h2).1
  have so := (soundX (pthX i js) c.toCxt o g2.2 k.1).1
  cases o <;> first | exact ff g2.1 | skip
  exact ps_expr (pe_bm PySem.F.plainAttrs_list slot hty hm so (pa_det (pa_cons (soundX a c.toCxt z (and2 h2).2 k.2).1 pa_nil st)) rfl (by rw [st]; rfl) g.2 st rfl) rfl
theorem sound_bmP2 (c : Cxs m sc j X) {i : Nat} {js : List PX} {nm : Str} {a b : PX} {e : Expr} {pos : Pos} {id : String} {r : V → List V → Hp → VK → Prop}
    (slot : Slot "list" nm id) (hty : typeOf (.builtin id) = pure (.type "method_descriptor")) (hm : MtR X id r)
    (h : (mtR m sc (pthX i js) nm e && (match arg2 e with
      | some (y, z) => starN y && starN z && mtX m sc a y && mtX m sc b z
      | none => false)) = true) (k : cOk (CalR j X) (pthX i js) ∧ (cOk (CalR j X) a ∧ cOk (CalR j X) b)) : PS X (.Expr e pos) (tDrop (tBM X.K "list" r (rd X.K (pthX i js)).1 (tDet X.K (tCons (rd X.K a).1 (tCons (rd X.K b).1 tNil))))) := by
  have h2 := (and2 h).2
  have h1 := (and2 h).1
  cases e <;> first | exact ff h1 | skip
  rename_i fn args kws cpos
  cases fn <;> first | exact ff h1 | skip
  rename_i o y apos
  rcases kws with _ | ⟨_, _⟩ <;> rcases args with _ | ⟨z, _ | ⟨u, _ | ⟨_, _⟩⟩⟩ <;> first | exact ff h1 | exact ff h2 | skip
  have h1 : (isSubB o && mtX m sc (pthX i js) o && decide (y = nm) && (apos.endLine == cpos.line)) = true := h1
  have h2 : (starN z && starN u && mtX m sc a z && mtX m sc b u) = true := h2
  have g := and2 h1
  have g1 := and2 g.1
  have g2 := and2 g1.1
  have e1 := of_decide_eq_true g1.2
  subst e1
  have f1 := and2 h2
  have f2 := and2 f1.1
  have f3 := and2 f2.1
  have st := star_of (es := [u]) (env := X.env) f3.1
  have su := star_of (es := []) (env := X.env) f3.2
  have so := (soundX (pthX i js) c.toCxt o g2.2 k.1).1
  cases o <;> first | exact ff g2.1 | skip
  exact ps_expr (pe_bm PySem.F.plainAttrs_list slot hty hm so (pa_det (pa_cons (soundX a c.toCxt z f2.2 k.2.1).1 (pa_cons (soundX b c.toCxt u f1.2 k.2.2).1 pa_nil su) st)) rfl (by rw [st, su]; rfl) g.2 st (by rw [su]; rfl)) rfl
theorem sound_bm0 (c : Cxs m sc j X) {i : Nat} {nm : Str} {e : Expr} {pos : Pos} {id : String} {r : V → List V → Hp → VK → Prop}
    (slot : Slot "list" nm id) (hty : typeOf (.builtin id) = pure (.type "method_descriptor")) (hm : MtR X id r)
    (h : (mtM m sc i nm e && arg0 e) = true) : PS X (.Expr e pos) (tDrop (tBM0 X.K "list" r (tVar i))) := by
  have h2 := (and2 h).2
  have h1 := (and2 h).1
  cases e <;> first | exact ff h1 | skip
  rename_i fn args kws cpos
  cases fn <;> first | exact ff h1 | skip
  rename_i o y apos
  cases o <;> first | exact ff h1 | skip
  rename_i x px
  rcases kws with _ | ⟨_, _⟩ <;> rcases args with _ | ⟨z, _⟩ <;> first | exact ff h1 | exact ff h2 | skip
  have h1 : (nmB m i x && visB sc x && dbgB x && decide (y = nm) && (apos.endLine == cpos.line)) = true := h1
  have g := and2 h1
  have g1 := and2 g.1
  have g2 := and2 g1.1
  have g3 := and2 g2.1
  have e1 := of_decide_eq_true g1.2
  subst e1
  exact ps_expr (pe_bm0 PySem.F.plainAttrs_list slot hty hm (pe_var (c.nm g3.1) (c.vis g3.2) (dbg1 g2.2) (dbg2 g2.2)) rfl g.2) rfl
end
section
variable {m : Mc} {sc : Scope} {j : Nat} {X : Cx}
theorem sound_clrP (c : Cxs m sc j X) {p : PX} {e : Expr} {pos : Pos} (h : (mtR m sc p "clear" e && arg0 e) = true) (k : cOk (CalR j X) p) : PS X (.Expr e pos) (tDrop (tBM0 X.K "list" rClear (tDetE X.K (rd X.K p).1))) := by
  have h2 := (and2 h).2
  have h1 := (and2 h).1
  cases e <;> first | exact ff h1 | skip
  rename_i fn args kws cpos
  cases fn <;> first | exact ff h1 | skip
  rename_i o y apos
  rcases kws with _ | ⟨_, _⟩ <;> rcases args with _ | ⟨z, _⟩ <;> first | exact ff h1 | exact ff h2 | skip
  have h1 : (isSubB o && mtX m sc p o && decide (y = "clear") && (apos.endLine == cpos.line)) = true := h1
  have g := and2 h1
  have g1 := and2 g.1
  have g2 := and2 g1.1
  have e1 := of_decide_eq_true g1.2
  subst e1
  have so := (soundX p c.toCxt o g2.2 k).1
  cases o <;> first | exact ff g2.1 | skip
  exact ps_expr (pe_bm0 PySem.F.plainAttrs_list PySem.F.slot_list_clear PySem.F.type_list_clear mt_clear (pe_det so) rfl g.2) rfl
theorem soundPC (c : Cxs m sc j X) : ∀ (p : PC) (e : Expr), mtPC m sc p e = true → cPC (CalR j X) p → PE X e (rdC' X.K p) ∧ swN e = true ∧ tupE e = false ∧ starN e = true
  | .mv f n wf l, e, h, k => by
    cases e <;> first | exact ff h | skip
    rename_i fn args kws p
    cases fn <;> first | exact ff h | skip
    rename_i x px
    rcases kws with _ | ⟨_, _⟩ <;> first | exact ff h | skip
    refine ⟨?_, rfl, rfl, rfl⟩
    have h : (decide (x = f) && gloB sc f && dbgB f && starsN args && mtA m sc l args) = true := h
    have e1 := of_decide_eq_true (and2 (and2 (and2 (and2 h).1).1).1).1
    subst e1
    have g1 := c.glo (and2 (and2 (and2 (and2 h).1).1).1).2
    have d1 := dbg1 (and2 (and2 (and2 h).1).1).2
    obtain ⟨k', hk, ⟨fa, fd, ps, F, hm, kp, b⟩⟩ := k.1
    have pa := soundA l c.toCxt args (and2 h).2 k.2
    have st := (and2 (and2 h).1).2
    rcases args with _ | ⟨y, ys⟩
    · show PE X _ (tCall (spM X.K none n wf) [] E0 (rdA X.K l))
      rw [show rdA X.K l = tNil from pa.2.1 rfl]
      exact pe_call0 F (c.room.mono hk) g1 hm kp b .nil pass0 d1
    · exact pe_call F (c.room.mono hk) g1 hm kp b .nil pass0 pa.1 d1 (star_of (and2 st).1) (stars_plain (and2 st).2)
  | .io i f n wf l1 l2, e, h, k => by
    cases e <;> first | exact ff h | skip
    rename_i fn args kws p
    cases fn <;> first | exact ff h | skip
    rename_i x px
    rcases kws with _ | ⟨_, _⟩ <;> first | exact ff h | skip
    refine ⟨?_, rfl, rfl, rfl⟩
    have h : (decide (x = f) && gloB sc f && dbgB f && starsN args && mtA m sc (appA l1 (.cons (.var i) l2)) args) = true := h
    have e1 := of_decide_eq_true (and2 (and2 (and2 (and2 h).1).1).1).1
    subst e1
    have g1 := c.glo (and2 (and2 (and2 (and2 h).1).1).1).2
    have d1 := dbg1 (and2 (and2 (and2 h).1).1).2
    obtain ⟨k', hk, ⟨fa, fd, ps, F, hm, kp, b⟩⟩ := k.1
    have pa := soundA (appA l1 (.cons (.var i) l2)) c.toCxt args (and2 h).2 k.2
    have st := (and2 (and2 h).1).2
    rcases args with _ | ⟨y, ys⟩
    · have := (and2 h).2
      cases l1 <;> exact ff this
    · exact pe_call F (c.room.mono hk) g1 hm kp b .nil pass0 pa.1 d1 (star_of (and2 st).1) (stars_plain (and2 st).2)
theorem sw_attr {v o : Expr} {f : Str} {p : Pos} {l : Nat} {env : Env} : swapsWith v (some (.Attribute o f p)) l env = pure false := by
  cases v <;> rfl
theorem tg_one {tg : Expr} {env : Env} (h : tgN tg = true) : (assignEach [tg] env).map (·.2) = [assign tg env] := by
  cases tg <;> first | rfl | exact ff h
mutual
theorem soundS (c : Cxs m sc j X) : ∀ (p : PSt) (s : Stmt), mtS m sc p s = true → cSt (CalR j X) p → PS X s (rdS X.K p)
  | .skip, s, h, _ => by
    cases s <;> first | exact ff h | skip
    · rename_i e p
      cases e <;> first | exact ff h | skip
      rename_i v k q
      cases v <;> first | exact ff h | skip
      exact ps_doc
    · exact ps_pass
  | .never, s, _, _ => ps_never
  | .ret a, s, h, k => by
    cases s <;> first | exact ff h | skip
    rename_i e p
    cases e <;> first | exact ff h | skip
    exact ps_ret (soundX a c.toCxt _ h k).1
  | .retN, s, h, k => by
    cases s <;> first | exact ff h | skip
    rename_i e p
    cases e <;> first | exact ff h | skip
    exact ps_retN
  | .asg g a, s, h, k => by
    cases s <;> first | exact ff h | skip
    rename_i tgs v p
    rcases tgs with _ | ⟨tg, _ | ⟨_, _⟩⟩ <;> first | exact ff h | skip
    cases tg <;> first | exact ff h | skip
    · rename_i x px
      cases g <;> first | exact ff h | skip
      exact sound_asg c h k
    · rename_i es n tp
      have h : (mtG m sc g (.Tuple es n tp) && mtX m sc a v && swN v && !tupE v) = true := h
      exact ps_asg (soundX a c.toCxt v (and2 (and2 (and2 h).1).1).2 k).1 (soundG c.toCxt g _ (and2 (and2 (and2 h).1).1).1) (sole_of (and2 (and2 h).1).2) (tupS_of (not_t (and2 h).2)) rfl
  | .six i ix a, s, h, k => by
    cases s <;> first | exact ff h | skip
    rename_i tgs v p
    rcases tgs with _ | ⟨tg, _ | ⟨_, _⟩⟩ <;> first | exact ff h | (cases tg <;> first | exact ff h | skip) | skip
    all_goals try (rename_i o y tp; cases o <;> first | exact ff h | skip)
    rename_i x px
    have h : (nmB m i x && visB sc x && dbgB x && ixOk y && mtX m sc ix y && mtX m sc a v && swN v) = true := h
    have g1 := and2 h
    have g2 := and2 g1.1
    have g3 := and2 g2.1
    have g4 := and2 g3.1
    have g5 := and2 g4.1
    have g6 := and2 g5.1
    refine ps_asg (soundX a c.toCxt v g2.2 k.2).1 (pg_sub (pe_var (c.nm g6.1) (c.vis g6.2) (dbg1 g5.2) (dbg2 g5.2)) (soundX ix c.toCxt y g3.2 k.1).1 set_list ?_) (sole_of g1.2) tupS_sub rfl
    intro w
    have := g4.2
    cases y <;> first | rfl | exact ff this
  | .app i a, s, h, k => by
    cases s <;> first | exact ff h | skip
    exact sound_bm1 c PySem.F.slot_list_append PySem.F.type_list_append mt_append h k
  | .ext i a, s, h, k => by
    cases s <;> first | exact ff h | skip
    exact sound_bm1 c PySem.F.slot_list_extend PySem.F.type_list_extend mt_extend h k
  | .pop0 i, s, h, k => by
    cases s <;> first | exact ff h | skip
    exact sound_bm0 c PySem.F.slot_list_pop PySem.F.type_list_pop mt_pop h
  | .clr i, s, h, k => by
    cases s <;> first | exact ff h | skip
    exact sound_bm0 c PySem.F.slot_list_clear PySem.F.type_list_clear mt_clear h
  | .ins i a b, s, h, k => by
    cases s <;> first | exact ff h | skip
    exact sound_bm2 c PySem.F.slot_list_insert PySem.F.type_list_insert mt_insert h k
  | .popA i a, s, h, k => by
    cases s <;> first | exact ff h | skip
    exact sound_bm1 c PySem.F.slot_list_pop PySem.F.type_list_pop mt_popAt h k
  | .appA i l, s, h, k => by
    cases s <;> first | exact ff h | skip
    exact sound_bm1 (a := .var l) c PySem.F.slot_list_append PySem.F.type_list_append mt_append h trivial
  | .asgA i l, s, h, k => by
    cases s <;> first | exact ff h | skip
    rename_i tgs v p
    rcases tgs with _ | ⟨tg, _ | ⟨_, _⟩⟩ <;> first | exact ff h | skip
    cases tg <;> first | exact ff h | skip
    exact sound_asg (a := .lst (.cons (.var l) .nil)) c h ⟨trivial, trivial⟩
  | .lcl x r q, s, h, k => by
    cases s <;> first | exact ff h | skip
    rename_i tg iter body els p
    rcases body with _ | ⟨b0, _ | ⟨_, _⟩⟩ <;> first | exact ff h | (cases b0 <;> exact ff h) | skip
    cases b0 <;> first | exact ff h | skip
    rename_i e ep
    rcases els with _ | ⟨_, _⟩ <;> first | exact ff h | skip
    have h : (mtI m sc (.li (.var x)) tg iter && mtG m sc (.nm r) tg && setN iter && (mtR m sc (.ix (.var r) (.int q)) "clear" e && arg0 e)) = true := h
    exact ps_for c.own c.calm (soundI (.li (.var x)) c.toCxt tg iter (and2 (and2 (and2 h).1).1).1 trivial) (soundG c.toCxt (.nm r) tg (and2 (and2 (and2 h).1).1).2) (pss_cons (sound_clrP c (p := .ix (.var r) (.int q)) (and2 h).2 ⟨trivial, trivial⟩) pss_nil) (set_of (and2 (and2 h).1).2)
  | .appP i js a, s, h, k => by
    cases s <;> first | exact ff h | skip
    exact sound_bmP1 c PySem.F.slot_list_append PySem.F.type_list_append mt_append h k
  | .clrP i js, s, h, k => by
    cases s <;> first | exact ff h | skip
    exact sound_clrP c h k
  | .popP i js a, s, h, k => by
    cases s <;> first | exact ff h | skip
    exact sound_bmP1 c PySem.F.slot_list_pop PySem.F.type_list_pop mt_popAt h k
  | .insP i js a b, s, h, k => by
    cases s <;> first | exact ff h | skip
    exact sound_bmP2 c PySem.F.slot_list_insert PySem.F.type_list_insert mt_insert h k
  | .exp a, s, h, k => by
    cases s <;> first | exact ff h | skip
    rename_i e p
    have h : (mtX m sc a e && swN e) = true := h
    exact ps_expr (soundX a c.toCxt e (and2 h).1 k).1 (sw_of (and2 h).2)
  | .par3 i t l a b e, s, h, k => by
    have h : (match par3E s with
      | some (((x, px), (y, py), (z, pz)), _, ((u, pu), (v, pv), (w, pw)), _, _) => (nmB m i x && (nmB m t y && nmB m l z)) && ((decide (lk sc x = some .local) && (decide (lk sc y = some .local) && decide (lk sc z = some .local))) && ((decide (x ≠ y) && (decide (x ≠ z) && decide (y ≠ z))) && (((py.line == px.line) && (pz.line == px.line)) && (dbgB u && (mtX m sc a (.Name u pu) && (mtX m sc b (.Name v pv) && mtX m sc e (.Name w pw)))))))
      | none => false) = true := h
    split at h
    · rename_i x px y py z pz _ u pu v pv w pw _ _ eq
      rw [par3E_eq eq]
      obtain ⟨⟨n1, n2, n3⟩, ⟨d1, d2, d3⟩, ⟨x1, x2, x3⟩, ⟨l1, l2⟩, du, ma, mb, me⟩ : ((nmB m i x = true ∧ (nmB m t y = true ∧ nmB m l z = true)) ∧ ((decide (lk sc x = some .local) = true ∧ (decide (lk sc y = some .local) = true ∧ decide (lk sc z = some .local) = true)) ∧ ((decide (x ≠ y) = true ∧ (decide (x ≠ z) = true ∧ decide (y ≠ z) = true)) ∧ (((py.line == px.line) = true ∧ (pz.line == px.line) = true) ∧ (dbgB u = true ∧ (mtX m sc a (.Name u pu) = true ∧ (mtX m sc b (.Name v pv) = true ∧ mtX m sc e (.Name w pw) = true))))))) :=
        ⟨⟨(and2 (and2 h).1).1, and2 (and2 (and2 h).1).2⟩, ⟨(and2 (and2 (and2 h).2).1).1, and2 (and2 (and2 (and2 h).2).1).2⟩, ⟨(and2 (and2 (and2 (and2 h).2).2).1).1, and2 (and2 (and2 (and2 (and2 h).2).2).1).2⟩, and2 (and2 (and2 (and2 (and2 h).2).2).2).1,
          (and2 (and2 (and2 (and2 (and2 h).2).2).2).2).1, (and2 (and2 (and2 (and2 (and2 (and2 h).2).2).2).2).2).1, and2 (and2 (and2 (and2 (and2 (and2 (and2 h).2).2).2).2).2).2⟩
      have loc : ∀ z, decide (lk sc z = some .local) = true → X.env.kindOf z = some .local := fun z hz => by
        rcases c.kn _ _ (of_decide_eq_true hz) with w | ⟨w, _⟩
        · exact w
        · cases w
      have lx := loc x d1
      have ly := loc y d2
      have lz := loc z d3
      have hN : X.N.Nodup := by rw [c.n]; exact c.nd
      have hxy := of_decide_eq_true x1
      have hxz := of_decide_eq_true x2
      have hyz := of_decide_eq_true x3
      have dif : ∀ {p q : Nat} {x y : Str}, x ≠ y → nmB m p x = true → nmB m q y = true → p ≠ q := fun hx n1 n2 z => by
        have a1 := c.nm n1
        have a2 := c.nm n2
        rw [z] at a1
        rw [a1] at a2
        exact hx (Option.some.inj a2)
      have hu : u ≠ "__debug__" := fun z => by
        have q := dbg1 du
        rw [z] at q
        exact absurd q (by decide)
      exact ps_par3 c.calm hN (c.nm n1) (c.nm n2) (c.nm n3) (dif hxy n1 n2) (dif hxz n1 n3) (dif hyz n2 n3) lx ly lz (pa_cons (soundX a c.toCxt _ ma k.1).1 (pa_cons (soundX b c.toCxt _ mb k.2.1).1 (pa_cons (soundX e c.toCxt _ me k.2.2).1 pa_nil rfl) rfl) rfl)
        (sw3_of c.bk lx ly lz hxy hxz hyz l1 l2 hu) rfl
    · exact ff h
  | .par i l a b, s, h, k => by
    have h : (match parE s with
      | some ((x, px), (y, py), _, (u, pu), (v, pv), _, _) => nmB m i x && nmB m l y && decide (lk sc x = some .local) && decide (lk sc y = some .local) && decide (x ≠ y) && (py.line == px.line) && dbgB u && mtX m sc a (.Name u pu) && mtX m sc b (.Name v pv)
      | none => false) = true := h
    split at h
    · rename_i x px y py _ u pu v pv _ _ e
      rw [parE_eq e]
      have g1 := and2 h
      have g2 := and2 g1.1
      have g3 := and2 g2.1
      have g4 := and2 g3.1
      have g5 := and2 g4.1
      have g6 := and2 g5.1
      have g7 := and2 g6.1
      have g8 := and2 g7.1
      have loc : ∀ z, decide (lk sc z = some .local) = true → X.env.kindOf z = some .local := fun z hz => by
        rcases c.kn _ _ (of_decide_eq_true hz) with w | ⟨w, _⟩
        · exact w
        · cases w
      have lx := loc x g7.2
      have ly := loc y g6.2
      have hN : X.N.Nodup := by rw [c.n]; exact c.nd
      have hxy := of_decide_eq_true g5.2
      have hij : i ≠ l := fun z => by
        have a1 := c.nm g8.1
        have a2 := c.nm g8.2
        rw [z] at a1
        rw [a1] at a2
        exact hxy (Option.some.inj a2)
      have hu : u ≠ "__debug__" := fun z => by
        have q := dbg1 g3.2
        rw [z] at q
        exact absurd q (by decide)
      exact ps_par c.calm hN (c.nm g8.1) (c.nm g8.2) hij lx ly (pa_cons (soundX a c.toCxt _ g2.2 k.1).1 (pa_cons (soundX b c.toCxt _ g1.2 k.2).1 pa_nil rfl) rfl)
        (sw2_of c.bk lx ly hxy g4.2 hu) rfl
    · exact ff h
  | .ifs t a b, s, h, k => by
    cases s <;> first | exact ff h | skip
    rename_i e x y p
    have h : (mtX m sc t e && mtSs m sc a x && mtSs m sc b y) = true := h
    exact ps_if (soundX t c.toCxt e (and2 (and2 h).1).1 k.1).2.1 (soundSs c a x (and2 (and2 h).1).2 k.2.1) (soundSs c b y (and2 h).2 k.2.2)
  | .for it g b, s, h, k => by
    cases s <;> first | exact ff h | skip
    rename_i tg iter body els p
    rcases els with _ | ⟨_, _⟩ <;> first | exact ff h | skip
    have h : (mtI m sc it tg iter && mtG m sc g tg && setN iter && mtSs m sc b body) = true := h
    exact ps_for c.own c.calm (soundI it c.toCxt tg iter (and2 (and2 (and2 h).1).1).1 k.1) (soundG c.toCxt g tg (and2 (and2 (and2 h).1).1).2) (soundSs c b body (and2 h).2 k.2) (set_of (and2 (and2 h).1).2)
  | .whl t b, s, h, k => by
    cases s <;> first | exact ff h | skip
    rename_i e body els p
    rcases els with _ | ⟨_, _⟩ <;> first | exact ff h | skip
    have h : (mtX m sc t e && mtSs m sc b body) = true := h
    exact ps_while c.own (soundX t c.toCxt e (and2 h).1 k.1).2.1 (soundSs c b body (and2 h).2 k.2)
  | .popG g i, s, h, k => by
    cases s <;> first | exact ff h | skip
    rename_i tgs v p
    rcases tgs with _ | ⟨tg, _ | ⟨_, _⟩⟩ <;> first | exact ff h | skip
    replace h : ((tgN tg && mtG m sc g tg) && (mtM m sc i "pop" v && arg0 v)) = true := h
    have h1 := and2 (and2 h).1
    have h2 := and2 (and2 h).2
    cases v <;> first | exact ff h2.1 | skip
    rename_i fn args kws cpos
    cases fn <;> first | exact ff h2.1 | skip
    rename_i o nm apos
    cases o <;> first | exact ff h2.1 | skip
    rename_i x px
    rcases args with _ | ⟨_, _⟩ <;> first | exact ff h2.2 | skip
    rcases kws with _ | ⟨_, _⟩ <;> first | exact ff h2.1 | skip
    have hm : (nmB m i x && visB sc x && dbgB x && decide (nm = "pop") && (apos.endLine == cpos.line)) = true := h2.1
    have g := and2 hm
    have g1 := and2 g.1
    have g2 := and2 g1.1
    have g3 := and2 g2.1
    have e := of_decide_eq_true g1.2
    subst e
    exact ps_asg (pe_bm0 PySem.F.plainAttrs_list PySem.F.slot_list_pop PySem.F.type_list_pop mt_pop (pe_var (c.nm g3.1) (c.vis g3.2) (dbg1 g2.2) (dbg2 g2.2)) rfl g.2) (soundG c.toCxt _ tg h1.2) (sole_of rfl) (tupS_of rfl) (tg_one h1.1)
  | .asgC g pc, s, h, k => by
    cases s <;> first | exact ff h | skip
    rename_i tgs v p
    rcases tgs with _ | ⟨tg, _ | ⟨_, _⟩⟩ <;> first | exact ff h | skip
    have h : ((tgN tg && mtG m sc g tg) && mtPC m sc pc v) = true := h
    have h1 := and2 (and2 h).1
    obtain ⟨pe, q1, q2, _⟩ := soundPC c pc v (and2 h).2 k
    exact ps_asg pe (soundG c.toCxt g tg h1.2) (sole_of q1) (tupS_of q2) (tg_one h1.1)
  | .retC pc, s, h, k => by
    cases s <;> first | exact ff h | skip
    rename_i e p
    cases e <;> first | exact ff h | skip
    exact ps_ret (soundPC c pc _ h k).1
  | .expC pc, s, h, k => by
    cases s <;> first | exact ff h | skip
    rename_i e p
    obtain ⟨pe, q1, _, _⟩ := soundPC c pc e h k
    exact ps_expr pe (sw_of q1)
  | .appC i pc, s, h, k => by
    cases s <;> first | exact ff h | skip
    rename_i e p
    replace h : (mtM m sc i "append" e && (match arg1 e with
      | some y => mtPC m sc pc y
      | none => false)) = true := h
    have h2 := (and2 h).2
    have h1 := (and2 h).1
    cases e <;> first | exact ff h1 | skip
    rename_i fn args kws cpos
    cases fn <;> first | exact ff h1 | skip
    rename_i o nm apos
    cases o <;> first | exact ff h1 | skip
    rename_i x px
    rcases kws with _ | ⟨_, _⟩ <;> first | exact ff h1 | skip
    rcases args with _ | ⟨z, _ | ⟨_, _⟩⟩ <;> first | exact ff h2 | skip
    have hm : (nmB m i x && visB sc x && dbgB x && decide (nm = "append") && (apos.endLine == cpos.line)) = true := h1
    have g := and2 hm
    have g1 := and2 g.1
    have g2 := and2 g1.1
    have g3 := and2 g2.1
    have e := of_decide_eq_true g1.2
    subst e
    obtain ⟨pe, q1, _, q3⟩ := soundPC c pc z h2 k
    have st : starEach [z] X.env = [(false, eval z X.env)] := star_of q3
    exact ps_expr (pe_bm PySem.F.plainAttrs_list PySem.F.slot_list_append PySem.F.type_list_append mt_append (pe_var (c.nm g3.1) (c.vis g3.2) (dbg1 g2.2) (dbg2 g2.2)) (pa_cons pe pa_nil st) rfl (by rw [st]; rfl) g.2 st rfl) rfl
  | .retM _ a, s, h, k => by
    cases s <;> first | exact ff h | skip
    rename_i e p
    cases e <;> first | exact ff h | skip
    exact ps_ret (soundX a c.toCxt _ h k).1
  | .retCM _ pc, s, h, k => by
    cases s <;> first | exact ff h | skip
    rename_i e p
    cases e <;> first | exact ff h | skip
    exact ps_ret (soundPC c pc _ h k).1
  | .sat cl n i a, s, h, k => by
    cases s <;> first | exact ff h | skip
    rename_i tgs v p
    rcases tgs with _ | ⟨tg, _ | ⟨_, _⟩⟩ <;> first | exact ff h | (cases tg <;> first | exact ff h | skip) | skip
    all_goals try (rename_i o g pp; cases o <;> first | exact ff h | skip)
    rename_i y py
    replace h : ((nmB m i y && visB sc y && dbgB y) && decide (g = cl.ns.getD n "") && mtX m sc a v) = true := h
    have h4 := and2 h
    have h5 := and2 h4.1
    have h6 := and2 h5.1
    have e := of_decide_eq_true h5.2
    subst e
    exact ps_fld (pe_var (c.nm (and2 h6.1).1) (c.vis (and2 h6.1).2) (dbg1 h6.2) (dbg2 h6.2)) (soundX a c.toCxt v h4.2 k).1 sw_attr
  | .xt x l b, s, h, k => by
    have h : (match x.mt m sc s with
      | some (es, r) => mtL m l es && mtSs m sc b r
      | none => false) = true := h
    cases hx : x.mt m sc s with
    | none => rw [hx] at h; exact ff h
    | some p =>
      obtain ⟨es, r⟩ := p
      rw [hx] at h
      exact x.sound c k.1 hx (soundL l c.toCxt es (and2 h).1 k.2.1) (soundSs c b r (and2 h).2 k.2.2)
theorem soundSs (c : Cxs m sc j X) : ∀ (p : PSs) (l : List Stmt), mtSs m sc p l = true → cSs (CalR j X) p → L2.PSs X l (rdSs X.K p)
  | .nil, l, h, _ => by
    cases l <;> first | exact ff h | skip
    exact pss_nil
  | .cons s l, r, h, k => by
    cases r <;> first | exact ff h | skip
    rename_i x r
    have h : (mtS m sc s x && mtSs m sc l r) = true := h
    exact pss_cons (soundS c s x (and2 h).1 k.1) (soundSs c l r (and2 h).2 k.2)
end
end
end PL
namespace PL
open PySem PySem.Spec L2

/-! ### a def by its deep text -/
def ini (n : Nat) (ds : List Sl) : Rho := ds.map some ++ List.replicate (n - ds.length) none
def retF (k : Kd) (d : PyData) : Bool := match k with
  | .un => true
  | .fr => true
  | .rt => true
  | .br => flat d
  | .ro => flat d
  | .io => flat d
def finF (Q : PyData → Prop) : KS := { nx := fun _ => Q .none, rt := fun k d => retF k d = true ∧ Q d }
def fin (Q : PyData → Prop) : KS := { nx := fun _ => Q .none, rt := fun k d => (k = .un ∨ flat d = true) ∧ Q d }
/-- a def of the text, under its name -/
structure Df (K : PySem.W.Frag) (mg : Str → Option Value) (x : Str) (st : Stmt) (ps : List Str) : Prop where
  ex : ∃ (f : Addr) (fd : FuncData), L2.Fun K x x st f fd ∧ Binds K fd ps [] ∧ mg x = some (.ref f)
/-- what stands in the text alone -/
structure Tx (m : Mc) (st : Stmt) (ps : List Str) (body : PSs) : Prop where
  sc : FnScope m.N ps (defScope st)
  mt : mtSs m (defScope st) body (defBody st) = true
  ok : okSs body = true
section
variable {K : PySem.W.Frag} {H : Hp}
theorem args_env : ∀ {vs : List V} {ds : List Sl} {a b : Nat}, ArgsOk K H vs ds → a = b → EnvOk (vs.map some ++ List.replicate a none) (ds.map some ++ List.replicate b none) := by
  intro vs ds a b h e
  induction h with
  | nil =>
    subst e
    show EnvOk (List.replicate a none) (List.replicate a none)
    induction a with
    | zero => exact .e0
    | succ a ih => exact .e2 ih
  | fr _ _ ih => exact .e1 rfl ih
  | ro _ _ ih => exact .e1 rfl ih
theorem lv_nones (a b : Nat) : lv (List.replicate a none) (List.replicate b none) = [] := by
  induction a generalizing b with
  | zero => rfl
  | succ a ih =>
    cases b with
    | zero => rfl
    | succ b => exact ih b
theorem args_st : ∀ {vs : List V} {ds : List Sl} {a b : Nat}, ArgsOk K H vs ds → Excl K H Frm0 (lv (vs.map some ++ List.replicate a none) (ds.map some ++ List.replicate b none)) [] ∧
    ∀ c ∈ lv (vs.map some ++ List.replicate a none) (ds.map some ++ List.replicate b none), Seen K H [] c := by
  intro vs ds a b h
  induction h with
  | nil =>
    have e : lv (([] : List V).map some ++ List.replicate a none) (([] : List Sl).map some ++ List.replicate b none) = [] := lv_nones a b
    rw [e]
    exact ⟨.nil (fun p hp => (nomatch hp)), fun c hc => by cases hc⟩
  | @fr v d vs ds r _ ih =>
    refine ⟨.fr ih.1, fun c hc => ?_⟩
    rcases List.mem_cons.mp hc with rfl | hc
    · show ∃ F, Rx K (hide H []) v d F
      rw [hide_nil]; exact r
    · exact ih.2 c hc
  | @ro v d vs ds r _ ih =>
    refine ⟨.ro ih.1, fun c hc => ?_⟩
    rcases List.mem_cons.mp hc with rfl | hc
    · show Dp K (hide H []) v d
      rw [hide_nil]; exact r
    · exact ih.2 c hc
end
theorem start_len {N : List Str} {vs : List V} {ds : List Sl} {K : PySem.W.Frag} {H : Hp} (h : ArgsOk K H vs ds) : N.length - vs.length = N.length - ds.length := by rw [h.len]
section
variable {P : Program} {w : World} {K : PySem.W.Frag} {mg : Str → Option Value} {base : Heap}
theorem cxs_of {m : Mc} {sc : Scope} {j : Nat} {f : Addr} {cd : Value} {A : Around} {outer : List Env} {s : Shared} {H : Hp} {E : XK} {x : Str} (hk : sc.kind = .function) (nd : m.N.Nodup) (hb : ∀ y ∈ m.bn, mg y = none)
    (hr : Room j (A.deeper (PyProof.Rows.envOfC x sc s.heap.objs.size f cd))) : Cxs m sc j (cxOf CX0 P w K mg base m.N x sc f cd A outer s H E).nox where
  n := rfl
  nd := nd
  calm := rfl
  kn := fun y k h => .inl h
  fn := fun _ _ => rfl
  room := hr
  bn := hb
  bk := by
    show (if sc.kind.isAnnotationScope then ScopeKind.function else sc.kind) = .function
    rw [hk]; rfl
  own := PassesOwn.never
/-- the promise of a def, by its text and a plain law -/
theorem fn_ok {m : Mc} {st : Stmt} {ps : List Str} {body : PSs} {x : Str} {j : Nat} {wf : WF} (T : Tx m st ps body) (D : Df K mg x st ps) (hb : ∀ y ∈ m.bn, mg y = none) (hc : cSs (CalS P w K mg base j) body)
    (hw : ∀ (ds : List Sl) (Q : PyData → Prop), wf ds Q → ds.length = ps.length → wSs body (fin Q) (ini m.N.length ds)) : Cal P w K mg base (j + 1) x ps.length wf := by
  obtain ⟨f, fd, F, b, hm⟩ := D.ex
  refine ⟨f, fd, ps, F.ok T.sc (fun vs H Q E h => ?_) (fun cdv A outer s H vs Q E hr h => ?_), hm, F.kp, b⟩
  · obtain ⟨ds, Qp, ha, hn, _⟩ := h
    rw [ha.len, hn]
  · obtain ⟨ds, Qp, ha, hn, hf, hk⟩ := h
    have c : Cxs m (defScope st) j (cxOf CX0 P w K mg base m.N x (defScope st) f cdv A outer s H E).nox := cxs_of T.sc.kind T.sc.nd hb hr
    refine ⟨_, soundSs c body (defBody st) T.mt hc, ?_⟩
    have e := args_env (a := m.N.length - vs.length) (b := m.N.length - ds.length) ha (start_len ha)
    have st0 := args_st (a := m.N.length - vs.length) (b := m.N.length - ds.length) ha
    have S : St0 K H ⟨H, Hp0, Frm0⟩ (lv (start m.N vs) (ini m.N.length ds) ++ []) := by
      rw [List.append_nil]
      exact ⟨[], st0.1, .nil, (fun p hp => by simp at hp), (by rw [hide_nil]; exact fun _ _ q => q), (fun _ _ q => by cases q), st0.2⟩
    refine liftSs body T.ok ⟨H, Hp0, Frm0⟩ H (start m.N vs) (ini m.N.length ds) [] _ (fin Qp) rfl (fun c hc => by cases hc) e S (hw ds Qp hf hn) ⟨?_, fun _ _ _ _ _ z => z.elim, fun _ _ _ _ _ z => z.elim, ?_, fun _ _ _ _ _ _ z => z.elim⟩
    · intro σ H' ρ ok s1 q
      obtain ⟨E', t⟩ := s1
      exact hk .non H' .none [] (t.sm.trans hide_same) .non .nil (fun p hp => by simp at hp) q
    · intro v H' k d s1 q
      obtain ⟨E', t⟩ := s1
      have sm : Same H H' := t.sm.trans hide_same
      rcases q.1 with rfl | fl
      · have ex := t.ex
        cases ex with
        | @un _ _ F _ _ r ex =>
          cases ex
          have nd := t.nd
          have e0 : (⟨H, Hp0, Frm0⟩ : Gh).f.x = ([] : List Addr) := rfl
          rw [e0, List.append_nil] at nd
          have nw := t.nw
          rw [e0, List.append_nil] at nw
          exact hk v H' d F sm r nd nw q.2
      · have dd : Dp K H' v d := St0.dp ⟨E', t⟩
        exact hk v H' d [] sm (dp_flat dd fl) .nil (fun p hp => by simp at hp) q.2
theorem args_stF {E : List Addr} (me : ∀ p ∈ E, ∃ o, H p = some o ∧ ownO o = true) : ∀ {vs : List V} {ds : List Sl} {a b : Nat}, ArgsOk K (hide H E) vs ds → Excl K H ⟨E, H, .non⟩ (lv (vs.map some ++ List.replicate a none) (ds.map some ++ List.replicate b none)) E ∧
    ∀ c ∈ lv (vs.map some ++ List.replicate a none) (ds.map some ++ List.replicate b none), Seen K H E c := by
  intro vs ds a b h
  induction h with
  | nil =>
    have e : lv (([] : List V).map some ++ List.replicate a none) (([] : List Sl).map some ++ List.replicate b none) = [] := lv_nones a b
    rw [e]
    exact ⟨.nil fun p hp => by obtain ⟨xs, e, w⟩ := me p hp; exact ⟨xs, e, e, w⟩, fun c hc => by cases hc⟩
  | @fr v d vs ds r _ ih =>
    refine ⟨.fr ih.1, fun c hc => ?_⟩
    rcases List.mem_cons.mp hc with rfl | hc
    · exact r
    · exact ih.2 c hc
  | @ro v d vs ds r _ ih =>
    refine ⟨.ro ih.1, fun c hc => ?_⟩
    rcases List.mem_cons.mp hc with rfl | hc
    · exact r
    · exact ih.2 c hc
theorem excl_base {X : Frm} : ∀ {L : List Cel} {E : List Addr}, Excl K H X L E → ∀ p ∈ X.x, ∃ o, X.h p = some o ∧ H p = some o ∧ ownO o = true
  | _, _, .nil q => q
  | _, _, .un _ s => excl_base s
  | _, _, .fr s => excl_base s
  | _, _, .br s => excl_base s
  | _, _, .ro s => excl_base s
  | _, _, .rt _ s => excl_base s
  | _, _, .io _ _ s => excl_base s
theorem same_base {H' : Hp} {E E' : List Addr} {L : List Cel} (t : Sta K H' ⟨hide H E, Hp0, ⟨E, H, .non⟩⟩ L E') : Same H H' := fun p o e => by
  by_cases c : p ∈ E
  · obtain ⟨xs, a, b, _⟩ := excl_base t.ex p c
    have a : H p = some xs := a
    rw [e] at a
    rw [b, a]
  · have z := t.sm p o (show hide H E p = some o by rw [hide_of c]; exact e)
    exact hide_same _ _ z
/-- the promise of a def that hands back what nobody changes -/
theorem fn_okF {m : Mc} {st : Stmt} {ps : List Str} {body : PSs} {x : Str} {j : Nat} {wf : WF} (T : Tx m st ps body) (D : Df K mg x st ps) (hb : ∀ y ∈ m.bn, mg y = none) (hc : cSs (CalS P w K mg base j) body)
    (hw : ∀ (ds : List Sl) (Q : PyData → Prop), wf ds Q → ds.length = ps.length → wSs body (finF Q) (ini m.N.length ds)) : CalF P w K mg base (j + 1) x ps.length wf := by
  obtain ⟨f, fd, F, b, hm⟩ := D.ex
  refine ⟨f, fd, ps, F.ok T.sc (fun vs H Q E h => ?_) (fun cdv A outer s H vs Q E hr h => ?_), hm, F.kp, b⟩
  · obtain ⟨E1, ds, Qp, _, _, ha, hn, _⟩ := h
    rw [ha.len, hn]
  · obtain ⟨E1, ds, Qp, nd, me, ha, hn, hf, hk⟩ := h
    have c : Cxs m (defScope st) j (cxOf CX0 P w K mg base m.N x (defScope st) f cdv A outer s H E).nox := cxs_of T.sc.kind T.sc.nd hb hr
    refine ⟨_, soundSs c body (defBody st) T.mt hc, ?_⟩
    have e := args_env (a := m.N.length - vs.length) (b := m.N.length - ds.length) ha (start_len ha)
    have st0 := args_stF me (a := m.N.length - vs.length) (b := m.N.length - ds.length) ha
    have S : St0 K H ⟨hide H E1, Hp0, ⟨E1, H, .non⟩⟩ (lv (start m.N vs) (ini m.N.length ds) ++ []) := by
      rw [List.append_nil]
      exact ⟨E1, st0.1, nd, (fun p hp => hide_in hp), Same.refl _, (fun _ _ q => by cases q), st0.2⟩
    refine liftSs body T.ok ⟨hide H E1, Hp0, ⟨E1, H, .non⟩⟩ H (start m.N vs) (ini m.N.length ds) [] _ (finF Qp) rfl (fun c hc => by cases hc) e S (hw ds Qp hf hn) ⟨?_, fun _ _ _ _ _ z => z.elim, fun _ _ _ _ _ z => z.elim, ?_, fun _ _ _ _ _ _ z => z.elim⟩
    · intro σ H' ρ ok s1 q
      obtain ⟨E', t⟩ := s1
      exact hk .non H' .none [] (same_base t) .non q
    · intro v H' k d s1 q
      have s2 : St0 K H' ⟨hide H E1, Hp0, ⟨E1, H, .non⟩⟩ (⟨v, .fr, d⟩ :: []) := by
        have q1 := q.1
        cases k with
        | un => exact s1.freeze (.inl rfl)
        | fr => exact s1
        | rt => exact s1.freeze (.inr (.inr rfl))
        | io => exact (s1.flatUn q1).freeze (.inl rfl)
        | br => exact (s1.flatUn q1).freeze (.inl rfl)
        | ro => exact (s1.flatUn q1).freeze (.inl rfl)
      obtain ⟨E', t⟩ := s2
      have sn := t.sn _ List.mem_cons_self
      have sm := same_base t
      cases t.ex with
      | fr ex =>
        cases ex with
        | nil _ =>
          obtain ⟨F, r⟩ := sn
          exact hk v H' d F sm r q.2
/-- the last def: the law itself -/
def spLaw (K : PySem.W.Frag) : Sp := fun vs H Q _ => ∃ (a : Addr) (ns : List Int), vs = [.ref a] ∧ SqL K H a (ns.map V.int) ∧ ns.length ≤ 63 ∧ ∀ H', Q (.bl true) H'
theorem dpAll_int {K : PySem.W.Frag} {H : Hp} : ∀ ns : List Int, DpAll K H (ns.map V.int) (ns.map PyData.int)
  | [] => .nil
  | n :: ns => .cons (.int n) (dpAll_int ns)
theorem law_ok {m : Mc} {st : Stmt} {body : PSs} {j : Nat} (T : Tx m st ["script"] body) {f : Addr} {fd : FuncData} (F : L2.Fun K "law" "law" st f fd) (hb : ∀ y ∈ m.bn, mg y = none) (hc : cSs (CalS P w K mg base j) body)
    (hw : ∀ ns : List Int, ns.length ≤ 63 → wSs body (fin fun d => d = .bool true) (ini m.N.length [(.ro, .list (ns.map .int))])) : FnOk P w K mg base CX0 (j + 1) f fd ["script"] (spLaw K) := by
  refine F.ok T.sc (fun vs H Q E h => ?_) (fun cdv A outer s H vs Q E hr h => ?_)
  · obtain ⟨a, ns, rfl, _⟩ := h
    rfl
  · obtain ⟨a, ns, rfl, hS, hl, hk⟩ := h
    have c : Cxs m (defScope st) j (cxOf CX0 P w K mg base m.N "law" (defScope st) f cdv A outer s H E).nox := cxs_of T.sc.kind T.sc.nd hb hr
    have ha : ArgsOk K H [.ref a] [(.ro, .list (ns.map .int))] := .ro (.lst hS (dpAll_int ns)) .nil
    refine ⟨_, soundSs c body (defBody st) T.mt hc, ?_⟩
    have e := args_env (a := m.N.length - 1) (b := m.N.length - 1) ha rfl
    have st0 := args_st (a := m.N.length - 1) (b := m.N.length - 1) ha
    have S : St0 K H ⟨H, Hp0, Frm0⟩ (lv (start m.N [.ref a]) (ini m.N.length [(.ro, .list (ns.map .int))]) ++ []) := by
      rw [List.append_nil]
      exact ⟨[], st0.1, .nil, (fun p hp => by simp at hp), (by rw [hide_nil]; exact fun _ _ q => q), (fun _ _ q => by cases q), st0.2⟩
    refine liftSs body T.ok ⟨H, Hp0, Frm0⟩ H (start m.N [.ref a]) (ini m.N.length [(.ro, .list (ns.map .int))]) [] _ (fin fun d => d = .bool true) rfl (fun c hc => by cases hc) e S (hw ns hl) ⟨?_, fun _ _ _ _ _ z => z.elim, fun _ _ _ _ _ z => z.elim, ?_, fun _ _ _ _ _ _ z => z.elim⟩
    · intro σ H' ρ ok s1 q
      cases q
    · intro v H' k d s1 q
      obtain ⟨q1, q2⟩ := q
      subst q2
      have dd := s1.dp
      cases dd
      exact hk H'
end
theorem walk {l : PySem.W.OpenLaw} {q : Program} {loose : List Str} {XP : (Str → Option Value) → Heap → Prop} {YP : World → Heap → Prop} {d : DefRec} {K : Params → PySem.W.Frag} {k : Nat} (hn : l.most = some 63) (hdf : d.params.defaults = [])
    (hY : ∀ (w : World) (h : Heap), YP w h → (K w.params).In h) (hk : k ≤ 20)
    (F : ∀ (w : World) (mg : Str → Option Value) (fa : Addr) (h : Heap), (K w.params).In h → h.Ns mainGlobals mg → mg d.name = some (.ref fa) →
      ∃ fd : FuncData, (∀ (s : Shared) (u : Value), BindsTo s fd ⟨[u], []⟩ [("script", u)]) ∧ ∀ base : Heap, (K w.params).In base → base.Ns mainGlobals mg → FnOk l.prog w (K w.params) mg base CX0 k fa fd ["script"] (spLaw (K w.params))) :
    PySem.W.WalkO q loose XP YP l.row.toRowW d [] (fun f vs => PySem.call f vs) :=
  L2.walk_of (n := 63) (k := k) (x := "script") (CX := fun _ => CX0) (sp := fun w => spLaw (K w.params)) hn (by decide) hdf ((⟨rfl, by decide, by decide⟩ : Room 20 callerA).mono hk) hY F (fun _ _ a ns hl _ hS => ⟨a, ns, rfl, hS, hl, fun _ => rfl⟩) fun _ _ _ _ _ z => z
end PL
namespace PL
open PySem PySem.Spec L2
/-! ### what a plain law is computed with -/
theorem atI_0 {α : Type} {x : α} {l : List α} : atI (x :: l) 0 = some x := by
  unfold atI ixN
  rw [if_pos (by decide), if_pos (by simp only [List.length_cons]; omega)]
  rfl
theorem atI_1 {α : Type} {x y : α} {l : List α} : atI (x :: y :: l) 1 = some y := by
  unfold atI ixN
  rw [if_pos (by decide), if_pos (by simp only [List.length_cons]; omega)]
  rfl
theorem atI_2 {α : Type} {x y z : α} {l : List α} : atI (x :: y :: z :: l) 2 = some z := by
  unfold atI ixN
  rw [if_pos (by decide), if_pos (by simp only [List.length_cons]; omega)]
  rfl
theorem atI_3 {α : Type} {x y z u : α} {l : List α} : atI (x :: y :: z :: u :: l) 3 = some u := by
  unfold atI ixN
  rw [if_pos (by decide), if_pos (by simp only [List.length_cons]; omega)]
  rfl
theorem atI_some {α : Type} {l : List α} {i : Int} (h0 : 0 ≤ i) (h : i < l.length) : ∃ x, atI l i = some x ∧ l[i.toNat]? = some x := by
  have q : i.toNat < l.length := by omega
  refine ⟨l[i.toNat], ?_, List.getElem?_eq_getElem q⟩
  unfold atI ixN
  rw [if_pos h0, if_pos h]
  exact List.getElem?_eq_getElem q
theorem atI_of {α : Type} {l : List α} {i : Int} (h0 : 0 ≤ i) (h : i < l.length) : atI l i = l[i.toNat]? := by
  unfold atI ixN
  rw [if_pos h0, if_pos h]
  rfl
theorem flat_int (i : Int) : flat (.int i) = true := rfl
theorem flat_bool (i : Bool) : flat (.bool i) = true := rfl
theorem flat_str (i : Str) : flat (.str i) = true := rfl
theorem flat_none : flat .none = true := rfl
theorem flat_tup (l : List PyData) : flat (.tuple l) = flats l := rfl
theorem flat_lst (l : List PyData) : flat (.list l) = false := rfl
theorem flats_nil : flats [] = true := rfl
theorem flats_cons (x : PyData) (l : List PyData) : flats (x :: l) = (flat x && flats l) := rfl
/-- a list of ints -/
def isInts (ds : List PyData) : Prop := ∃ ns : List Int, ds = ns.map .int
theorem isInts_map (ns : List Int) : isInts (ns.map .int) = True := eq_true ⟨ns, rfl⟩
theorem wAt_map {α : Type} (f : α → PyData) (ns : List α) {i : Int} (K : PyData → Prop) (h0 : 0 ≤ i) (h1 : i < ns.length) : wAt (ns.map f) i K .mk = K (f (ns[i.toNat]'(by omega))) := by
  unfold wAt
  rw [atI_of h0 (by rw [List.length_map]; exact h1), List.getElem?_map, List.getElem?_eq_getElem (by omega)]
  rfl
/-- an item of a list of ints that stands in the text -/
theorem wAt_ints {l : List PyData} {i : Int} (K : PyData → Prop) (ns : List Int) (e : l = ns.map .int) (h0 : 0 ≤ i) (h1 : i < ns.length) : wAt l i K .mk = K (.int (ns.getD i.toNat 0)) := by
  subst e
  rw [wAt_map _ _ _ h0 h1, List.getD_eq_getElem?_getD, List.getElem?_eq_getElem (by omega)]
  rfl
theorem wAt_i2 {a b i : Int} {K : PyData → Prop} (h0 : 0 ≤ i) (h1 : i < 2) : wAt [.int a, .int b] i K .mk = K (.int ([a, b].getD i.toNat 0)) := wAt_ints K [a, b] rfl h0 h1
theorem wAt_i3 {a b c i : Int} {K : PyData → Prop} (h0 : 0 ≤ i) (h1 : i < 3) : wAt [.int a, .int b, .int c] i K .mk = K (.int ([a, b, c].getD i.toNat 0)) := wAt_ints K [a, b, c] rfl h0 h1
theorem wAt_i4 {a b c d i : Int} {K : PyData → Prop} (h0 : 0 ≤ i) (h1 : i < 4) : wAt [.int a, .int b, .int c, .int d] i K .mk = K (.int ([a, b, c, d].getD i.toNat 0)) := wAt_ints K [a, b, c, d] rfl h0 h1
theorem wAt_i5 {a b c d e i : Int} {K : PyData → Prop} (h0 : 0 ≤ i) (h1 : i < 5) : wAt [.int a, .int b, .int c, .int d, .int e] i K .mk = K (.int ([a, b, c, d, e].getD i.toNat 0)) := wAt_ints K [a, b, c, d, e] rfl h0 h1
theorem wAt_i6 {a b c d e f i : Int} {K : PyData → Prop} (h0 : 0 ≤ i) (h1 : i < 6) : wAt [.int a, .int b, .int c, .int d, .int e, .int f] i K .mk = K (.int ([a, b, c, d, e, f].getD i.toNat 0)) := wAt_ints K [a, b, c, d, e, f] rfl h0 h1
theorem wAt_i7 {a b c d e f g i : Int} {K : PyData → Prop} (h0 : 0 ≤ i) (h1 : i < 7) : wAt [.int a, .int b, .int c, .int d, .int e, .int f, .int g] i K .mk = K (.int ([a, b, c, d, e, f, g].getD i.toNat 0)) := wAt_ints K [a, b, c, d, e, f, g] rfl h0 h1
theorem wAt_i8 {a b c d e f g h i : Int} {K : PyData → Prop} (h0 : 0 ≤ i) (h1 : i < 8) : wAt [.int a, .int b, .int c, .int d, .int e, .int f, .int g, .int h] i K .mk = K (.int ([a, b, c, d, e, f, g, h].getD i.toNat 0)) := wAt_ints K [a, b, c, d, e, f, g, h] rfl h0 h1
theorem wAt_m2 {a b x : Int} {K : PyData → Prop} : wAt [.int a, .int b] (x % 2) K .mk = K (.int ([a, b].getD (x % 2).toNat 0)) := wAt_i2 (by omega) (by omega)
theorem wAt_m3_2 {a b c x : Int} {K : PyData → Prop} : wAt [.int a, .int b, .int c] (x % 2) K .mk = K (.int ([a, b, c].getD (x % 2).toNat 0)) := wAt_i3 (by omega) (by omega)
theorem wAt_m3 {a b c x : Int} {K : PyData → Prop} : wAt [.int a, .int b, .int c] (x % 3) K .mk = K (.int ([a, b, c].getD (x % 3).toNat 0)) := wAt_i3 (by omega) (by omega)
theorem wAt_m4_2 {a b c d x : Int} {K : PyData → Prop} : wAt [.int a, .int b, .int c, .int d] (x % 2) K .mk = K (.int ([a, b, c, d].getD (x % 2).toNat 0)) := wAt_i4 (by omega) (by omega)
theorem wAt_m4_3 {a b c d x : Int} {K : PyData → Prop} : wAt [.int a, .int b, .int c, .int d] (x % 3) K .mk = K (.int ([a, b, c, d].getD (x % 3).toNat 0)) := wAt_i4 (by omega) (by omega)
theorem wAt_m4 {a b c d x : Int} {K : PyData → Prop} : wAt [.int a, .int b, .int c, .int d] (x % 4) K .mk = K (.int ([a, b, c, d].getD (x % 4).toNat 0)) := wAt_i4 (by omega) (by omega)
theorem wAt_m5_2 {a b c d e x : Int} {K : PyData → Prop} : wAt [.int a, .int b, .int c, .int d, .int e] (x % 2) K .mk = K (.int ([a, b, c, d, e].getD (x % 2).toNat 0)) := wAt_i5 (by omega) (by omega)
theorem wAt_m5_3 {a b c d e x : Int} {K : PyData → Prop} : wAt [.int a, .int b, .int c, .int d, .int e] (x % 3) K .mk = K (.int ([a, b, c, d, e].getD (x % 3).toNat 0)) := wAt_i5 (by omega) (by omega)
theorem wAt_m5_4 {a b c d e x : Int} {K : PyData → Prop} : wAt [.int a, .int b, .int c, .int d, .int e] (x % 4) K .mk = K (.int ([a, b, c, d, e].getD (x % 4).toNat 0)) := wAt_i5 (by omega) (by omega)
theorem wAt_m5 {a b c d e x : Int} {K : PyData → Prop} : wAt [.int a, .int b, .int c, .int d, .int e] (x % 5) K .mk = K (.int ([a, b, c, d, e].getD (x % 5).toNat 0)) := wAt_i5 (by omega) (by omega)
theorem wAt_m6_2 {a b c d e f x : Int} {K : PyData → Prop} : wAt [.int a, .int b, .int c, .int d, .int e, .int f] (x % 2) K .mk = K (.int ([a, b, c, d, e, f].getD (x % 2).toNat 0)) := wAt_i6 (by omega) (by omega)
theorem wAt_m6_3 {a b c d e f x : Int} {K : PyData → Prop} : wAt [.int a, .int b, .int c, .int d, .int e, .int f] (x % 3) K .mk = K (.int ([a, b, c, d, e, f].getD (x % 3).toNat 0)) := wAt_i6 (by omega) (by omega)
theorem wAt_m6_4 {a b c d e f x : Int} {K : PyData → Prop} : wAt [.int a, .int b, .int c, .int d, .int e, .int f] (x % 4) K .mk = K (.int ([a, b, c, d, e, f].getD (x % 4).toNat 0)) := wAt_i6 (by omega) (by omega)
theorem wAt_m6_5 {a b c d e f x : Int} {K : PyData → Prop} : wAt [.int a, .int b, .int c, .int d, .int e, .int f] (x % 5) K .mk = K (.int ([a, b, c, d, e, f].getD (x % 5).toNat 0)) := wAt_i6 (by omega) (by omega)
theorem wAt_m6 {a b c d e f x : Int} {K : PyData → Prop} : wAt [.int a, .int b, .int c, .int d, .int e, .int f] (x % 6) K .mk = K (.int ([a, b, c, d, e, f].getD (x % 6).toNat 0)) := wAt_i6 (by omega) (by omega)
theorem wAt_m7_2 {a b c d e f g x : Int} {K : PyData → Prop} : wAt [.int a, .int b, .int c, .int d, .int e, .int f, .int g] (x % 2) K .mk = K (.int ([a, b, c, d, e, f, g].getD (x % 2).toNat 0)) := wAt_i7 (by omega) (by omega)
theorem wAt_m7_3 {a b c d e f g x : Int} {K : PyData → Prop} : wAt [.int a, .int b, .int c, .int d, .int e, .int f, .int g] (x % 3) K .mk = K (.int ([a, b, c, d, e, f, g].getD (x % 3).toNat 0)) := wAt_i7 (by omega) (by omega)
theorem wAt_m7_4 {a b c d e f g x : Int} {K : PyData → Prop} : wAt [.int a, .int b, .int c, .int d, .int e, .int f, .int g] (x % 4) K .mk = K (.int ([a, b, c, d, e, f, g].getD (x % 4).toNat 0)) := wAt_i7 (by omega) (by omega)
theorem wAt_m7_5 {a b c d e f g x : Int} {K : PyData → Prop} : wAt [.int a, .int b, .int c, .int d, .int e, .int f, .int g] (x % 5) K .mk = K (.int ([a, b, c, d, e, f, g].getD (x % 5).toNat 0)) := wAt_i7 (by omega) (by omega)
theorem wAt_m7_6 {a b c d e f g x : Int} {K : PyData → Prop} : wAt [.int a, .int b, .int c, .int d, .int e, .int f, .int g] (x % 6) K .mk = K (.int ([a, b, c, d, e, f, g].getD (x % 6).toNat 0)) := wAt_i7 (by omega) (by omega)
theorem wAt_m7 {a b c d e f g x : Int} {K : PyData → Prop} : wAt [.int a, .int b, .int c, .int d, .int e, .int f, .int g] (x % 7) K .mk = K (.int ([a, b, c, d, e, f, g].getD (x % 7).toNat 0)) := wAt_i7 (by omega) (by omega)
theorem wAt_m8_2 {a b c d e f g h x : Int} {K : PyData → Prop} : wAt [.int a, .int b, .int c, .int d, .int e, .int f, .int g, .int h] (x % 2) K .mk = K (.int ([a, b, c, d, e, f, g, h].getD (x % 2).toNat 0)) := wAt_i8 (by omega) (by omega)
theorem wAt_m8_3 {a b c d e f g h x : Int} {K : PyData → Prop} : wAt [.int a, .int b, .int c, .int d, .int e, .int f, .int g, .int h] (x % 3) K .mk = K (.int ([a, b, c, d, e, f, g, h].getD (x % 3).toNat 0)) := wAt_i8 (by omega) (by omega)
theorem wAt_m8_4 {a b c d e f g h x : Int} {K : PyData → Prop} : wAt [.int a, .int b, .int c, .int d, .int e, .int f, .int g, .int h] (x % 4) K .mk = K (.int ([a, b, c, d, e, f, g, h].getD (x % 4).toNat 0)) := wAt_i8 (by omega) (by omega)
theorem wAt_m8_5 {a b c d e f g h x : Int} {K : PyData → Prop} : wAt [.int a, .int b, .int c, .int d, .int e, .int f, .int g, .int h] (x % 5) K .mk = K (.int ([a, b, c, d, e, f, g, h].getD (x % 5).toNat 0)) := wAt_i8 (by omega) (by omega)
theorem wAt_m8_6 {a b c d e f g h x : Int} {K : PyData → Prop} : wAt [.int a, .int b, .int c, .int d, .int e, .int f, .int g, .int h] (x % 6) K .mk = K (.int ([a, b, c, d, e, f, g, h].getD (x % 6).toNat 0)) := wAt_i8 (by omega) (by omega)
theorem wAt_m8_7 {a b c d e f g h x : Int} {K : PyData → Prop} : wAt [.int a, .int b, .int c, .int d, .int e, .int f, .int g, .int h] (x % 7) K .mk = K (.int ([a, b, c, d, e, f, g, h].getD (x % 7).toNat 0)) := wAt_i8 (by omega) (by omega)
theorem wAt_m8 {a b c d e f g h x : Int} {K : PyData → Prop} : wAt [.int a, .int b, .int c, .int d, .int e, .int f, .int g, .int h] (x % 8) K .mk = K (.int ([a, b, c, d, e, f, g, h].getD (x % 8).toNat 0)) := wAt_i8 (by omega) (by omega)
theorem getD_mem (ns : List Int) {i : Nat} (h : i < ns.length) : ns.getD i 0 ∈ ns := by
  rw [List.getD_eq_getElem?_getD, List.getElem?_eq_getElem h]
  exact List.getElem_mem h
theorem wAt_0 {x : PyData} {l : List PyData} (K : PyData → Prop) : wAt (x :: l) 0 K .mk = K x := by unfold wAt; rw [atI_0]
theorem wAt_1 {x y : PyData} {l : List PyData} (K : PyData → Prop) : wAt (x :: y :: l) 1 K .mk = K y := by unfold wAt; rw [atI_1]
theorem wAt_2 {x y z : PyData} {l : List PyData} (K : PyData → Prop) : wAt (x :: y :: z :: l) 2 K .mk = K z := by unfold wAt; rw [atI_2]
theorem wAt_3 {x y z u : PyData} {l : List PyData} (K : PyData → Prop) : wAt (x :: y :: z :: u :: l) 3 K .mk = K u := by unfold wAt; rw [atI_3]
theorem shaped_int (i : Int) : SeqAt.shaped (.int i) = true := by simp [SeqAt.shaped, PyData.canLay0, PyData.depth]
theorem shaped_bool (i : Bool) : SeqAt.shaped (.bool i) = true := by simp [SeqAt.shaped, PyData.canLay0, PyData.depth]
theorem shaped_none : SeqAt.shaped .none = true := by simp [SeqAt.shaped, PyData.canLay0, PyData.depth]
theorem shaped_str (i : Str) : SeqAt.shaped (.str i) = PyData.strOk i := by simp [SeqAt.shaped, PyData.canLay0, PyData.depth]
theorem eqv_int (a b : Int) : PyData.eqv (.int a) (.int b) = decide (a = b) := by simp [PyData.eqv]; rfl
theorem eqv_bool (a b : Bool) : PyData.eqv (.bool a) (.bool b) = decide (a = b) := by cases a <;> cases b <;> simp [PyData.eqv]
theorem eqv_str (a b : Str) : PyData.eqv (.str a) (.str b) = (a == b) := by simp [PyData.eqv]
theorem cDivW {i j : Int} (h0 : 0 < j) (h1 : j ≤ 10 ^ 60) : CDivW i j := by
  refine ⟨h0, ?_⟩
  have h2 : j.natAbs < 2 ^ 240 := by
    have : (j.natAbs : Int) = j := by omega
    have h3 : (10 : Int) ^ 60 < 2 ^ 240 := by decide
    have h4 : ((2 ^ 240 : Nat) : Int) = (2 : Int) ^ 240 := by norm_cast
    omega
  exact Nat.lt_trans ((Nat.log2_lt (by omega)).mpr h2) (by decide)
theorem cMul {i j : Int} (h : -(10 ^ 18) ≤ j) (h' : j ≤ 10 ^ 18) : CMul i j := .inr ⟨by omega, by omega⟩
theorem cMul' {i j : Int} (h : -(10 ^ 18) ≤ i) (h' : i ≤ 10 ^ 18) : CMul i j := .inl ⟨by omega, by omega⟩
/-! ### kinds -/
theorem kp_int (k : Kd) (i : Int) : kp k (.int i) = .un := rfl
theorem kp_bool (k : Kd) (i : Bool) : kp k (.bool i) = .un := rfl
theorem kp_str (k : Kd) (i : Str) : kp k (.str i) = .un := rfl
theorem kp_none (k : Kd) : kp k .none = .un := rfl
theorem kp_lst_fr (l : List PyData) : kp .fr (.list l) = .fr := rfl
theorem kp_lst_un (l : List PyData) : kp .un (.list l) = .un := rfl
theorem kp_lst_ro (l : List PyData) : kp .ro (.list l) = .ro := rfl
theorem kp_lst_rt (l : List PyData) : kp .rt (.list l) = .br := rfl
theorem kp_lst_br (l : List PyData) : kp .br (.list l) = .br := rfl
theorem kp_flat {k : Kd} {d : PyData} (h : flat d = true) : kp k d = .un := by unfold kp; rw [if_pos h]
theorem kp_nfl {d : PyData} (h : flat d = false) : kp .fr d = .fr := by unfold kp; rw [h]; rfl
theorem kp_un (d : PyData) : kp .un d = .un := by unfold kp; split <;> rfl
theorem kv_fr (d : PyData) : kv .fr d = .fr := rfl
theorem kv_ro (d : PyData) : kv .ro d = .ro := rfl
theorem kv_br (d : PyData) : kv .br d = .br := rfl
theorem kv_rt (d : PyData) : kv .rt d = .br := rfl
theorem kv_int (i : Int) : kv .un (.int i) = .un := rfl
theorem kv_bool (i : Bool) : kv .un (.bool i) = .un := rfl
theorem kv_str (i : Str) : kv .un (.str i) = .un := rfl
theorem kv_none : kv .un .none = .un := rfl
theorem kv_lst (l : List PyData) : kv .un (.list l) = .br := rfl
theorem kv_flat {d : PyData} (h : flat d = true) : kv .un d = .un := by unfold kv; simp only [h, if_true]
theorem kv_nfl {d : PyData} (h : flat d = false) : kv .un d = .br := by unfold kv; simp [h]
theorem kv_kp (d : PyData) : kv (kp .fr d) d = kp .fr d := by
  cases h : flat d
  · rw [kp_nfl h]; rfl
  · rw [kp_flat h, kv_flat h]
theorem kv_kp_ro (d : PyData) : kv (kp .ro d) d = kp .ro d := by
  cases h : flat d
  · have : kp .ro d = .ro := by unfold kp; rw [h]; rfl
    rw [this]; rfl
  · rw [kp_flat h, kv_flat h]
theorem ak_fr (d : PyData) : ak (.fr, d) = (.fr, d) := rfl
theorem ak_un (d : PyData) : ak (.un, d) = (.fr, d) := rfl
theorem ak_br (d : PyData) : ak (.br, d) = (.fr, d) := rfl
theorem ak_rt (d : PyData) : ak (.rt, d) = (.fr, d) := rfl
theorem ak_ro (d : PyData) : ak (.ro, d) = (.ro, d) := rfl
theorem ak_kv (d e : PyData) : ak (kv .un d, e) = (.fr, e) := by
  cases h : flat d
  · rw [kv_nfl h]; rfl
  · rw [kv_flat h]; rfl
theorem ak_kp (d e : PyData) : ak (kp .fr d, e) = (.fr, e) := by
  cases h : flat d
  · rw [kp_nfl h]; rfl
  · rw [kp_flat h]; rfl
theorem stK_un : stK .un = true := rfl
theorem stK_fr : stK .fr = true := rfl
theorem stK_ro : stK .ro = true := rfl
theorem stK_rt : stK .rt = true := rfl
theorem stK_br : stK .br = true := rfl
def drO : Option Sl → Option Sl
  | none => none
  | some (k, d) => drK k d
theorem drB_nil : drB [] = [] := rfl
theorem drB_cons (o : Option Sl) (ρ : Rho) : drB (o :: ρ) = drO o :: drB ρ := by rcases o with _ | ⟨k, d⟩ <;> rfl
theorem drO_none : drO none = none := rfl
theorem drO_some (k : Kd) (d : PyData) : drO (some (k, d)) = drK k d := rfl
def frO : Option Sl → Option Sl
  | none => none
  | some (k, d) => some (frK k, d)
theorem frz_nil : frz [] = [] := rfl
theorem frz_cons (o : Option Sl) (ρ : Rho) : frz (o :: ρ) = frO o :: frz ρ := by rcases o with _ | ⟨k, d⟩ <;> rfl
theorem frO_none : frO none = none := rfl
theorem frO_some (k : Kd) (d : PyData) : frO (some (k, d)) = some (frK k, d) := rfl
theorem drK_un (d : PyData) : drK .un d = some (.un, d) := rfl
theorem drK_fr (d : PyData) : drK .fr d = some (.fr, d) := rfl
theorem drK_br (d : PyData) : drK .br d = none := rfl
theorem drK_ro (d : PyData) : drK .ro d = some (.ro, d) := rfl
theorem drK_rt (d : PyData) : drK .rt d = some (.rt, d) := rfl
theorem drK_kp (d e : PyData) : drK (kp .fr d) e = some (kp .fr d, e) := by
  cases h : flat d
  · rw [kp_nfl h]; rfl
  · rw [kp_flat h]; rfl
theorem stK_kp (d : PyData) : stK (kp .fr d) = true := by
  cases h : flat d
  · rw [kp_nfl h]; rfl
  · rw [kp_flat h]; rfl
theorem kp_ne_br (d : PyData) : (kp .fr d = .br) = False := by
  cases h : flat d
  · rw [kp_nfl h]; exact eq_false (by decide)
  · rw [kp_flat h]; exact eq_false (by decide)
theorem kp_ne_ro (d : PyData) : (kp .fr d = .ro) = False := by
  cases h : flat d
  · rw [kp_nfl h]; exact eq_false (by decide)
  · rw [kp_flat h]; exact eq_false (by decide)
theorem kp_ne_io (d : PyData) : (kp .fr d = .io) = False := by
  cases h : flat d
  · rw [kp_nfl h]; exact eq_false (by decide)
  · rw [kp_flat h]; exact eq_false (by decide)
theorem kp_kp (d e : PyData) (h : flat e = true) : kp (kp .fr d) e = .un := kp_flat h
/-! ### statements, loops, comprehensions for W! (Tg keeps simp out) -/
def forP (g : PGt) (b : PSs) (κ : KS) (_ : Tg κ) : List Sl → Rho → Prop := forW (wG g) (wSs b) κ
theorem forP_nil {g : PGt} {b : PSs} {κ : KS} {t : Tg κ} {ρ : Rho} : forP g b κ t [] ρ = κ.nx ρ := rfl
theorem forP_cons {g : PGt} {b : PSs} {κ : KS} {t : Tg κ} {ρ : Rho} {k : Kd} {d : PyData} {r : List Sl} : forP g b κ t ((k, d) :: r) ρ = wG g k d ρ fun ρ1 => wSs b { κ with nx := forP g b κ t r, ct := forP g b κ t r, bk := κ.nx } ρ1 := rfl
theorem forP_ind {g : PGt} {b : PSs} {κ : KS} {t : Tg κ} (I : List Sl → Rho → Prop) (done : ∀ ρ, I [] ρ → κ.nx ρ)
    (step : ∀ k d r, (∀ ρ, I r ρ → forP g b κ t r ρ) → ∀ ρ, I ((k, d) :: r) ρ → forP g b κ t ((k, d) :: r) ρ) : ∀ ds ρ, I ds ρ → forP g b κ t ds ρ
  | [], ρ, h => done ρ h
  | (k, d) :: r, ρ, h => step k d r (forP_ind I done step r) ρ h
def whlP (c : PX) (b : PSs) (κ : KS) (_ : Tg κ) (ρ : Rho) : Prop := wWhile (wX c).2 (wSs b) κ ρ
/-- a loop by an invariant; the number falls -/
theorem whlP_ind {c : PX} {b : PSs} {κ : KS} {t : Tg κ} (I : Nat → Rho → Prop) {ρ : Rho} (n : Nat) (h0 : I n ρ)
    (step : ∀ n ρ, I n ρ → (wX c).2 ρ fun ρ1 x => if x = true then wSs b { κ with nx := fun ρ' => ∃ m, m < n ∧ I m ρ', ct := fun ρ' => ∃ m, m < n ∧ I m ρ', bk := κ.nx } ρ1 else κ.nx ρ1) : whlP c b κ t ρ :=
  ⟨I, ⟨n, h0⟩, step⟩
def lcP (g : PGt) (c : PXo) (e : PX) (vs : List Nat) (Q : Kd → List PyData → Rho → Prop) (_ : Tg Q) (ds : List Sl) (kd : Kd) (acc : List PyData) (ρ : Rho) : Prop := lcW (wG g) (wCo c) (wX e).1 vs Q ds kd acc ρ
theorem lcP_nil {g : PGt} {c : PXo} {e : PX} {vs : List Nat} {Q : Kd → List PyData → Rho → Prop} {t : Tg Q} {kd : Kd} {acc : List PyData} {ρ : Rho} : lcP g c e vs Q t [] kd acc ρ = Q kd acc ρ := rfl
theorem lcP_cons {g : PGt} {c : PXo} {e : PX} {vs : List Nat} {Q : Kd → List PyData → Rho → Prop} {t : Tg Q} {kd : Kd} {acc : List PyData} {ρ : Rho} {k : Kd} {d : PyData} {r : List Sl} :
    lcP g c e vs Q t ((k, d) :: r) kd acc ρ = wG g k d ρ fun ρ2 => wCo c ρ2 fun ρ3 b => if b = true then (wX e).1 ρ3 fun ρ4 k' x => acc.length < sizeLine ∧ wApp kd [(k', x)] fun kd' => lcP g c e vs Q t r kd' (acc ++ [x]) (drB (wipeR ρ4 vs))
      else lcP g c e vs Q t r kd acc (wipeR ρ3 vs) := rfl
theorem lcP_ind {g : PGt} {c : PXo} {e : PX} {vs : List Nat} {Q : Kd → List PyData → Rho → Prop} {t : Tg Q} (I : List Sl → Kd → List PyData → Rho → Prop) (done : ∀ kd acc ρ, I [] kd acc ρ → Q kd acc ρ)
    (step : ∀ k d r, (∀ kd acc ρ, I r kd acc ρ → lcP g c e vs Q t r kd acc ρ) → ∀ kd acc ρ, I ((k, d) :: r) kd acc ρ → lcP g c e vs Q t ((k, d) :: r) kd acc ρ) : ∀ ds kd acc ρ, I ds kd acc ρ → lcP g c e vs Q t ds kd acc ρ
  | [], kd, acc, ρ, h => done kd acc ρ h
  | (k, d) :: r, kd, acc, ρ, h => step k d r (lcP_ind I done step r) kd acc ρ h
theorem rng_zero (lo : Int) : rng lo 0 = [] := rfl
theorem rng_succ (lo : Int) (n : Nat) : rng lo (n + 1) = (.un, .int lo) :: rng (lo + 1) n := by
  unfold rng
  rw [List.range_succ_eq_map, List.map_cons, List.map_map]
  congr 1
  · simp
  · refine List.map_congr_left fun i _ => ?_
    show ((Kd.un, PyData.int (lo + ((i + 1 : Nat) : Int))) : Sl) = (.un, .int (lo + 1 + (i : Nat)))
    rw [show lo + ((i + 1 : Nat) : Int) = lo + 1 + (i : Nat) by omega]
theorem s_skip : wS .skip = wSkip := rfl
theorem s_never : wS .never = wNever := rfl
theorem s_ret (a : PX) : wS (.ret a) = wRet (wX a).1 := rfl
theorem s_retN : wS .retN = wRetN := rfl
theorem s_asg (g : PGt) (a : PX) : wS (.asg g a) = wAsg (wX a).1 (wG g) := rfl
theorem s_six (i : Nat) (ix a : PX) : wS (.six i ix a) = wSet i (wX a).1 (wX ix).1 := rfl
theorem s_app (i : Nat) (a : PX) : wS (.app i a) = wChg i (wCons (wX a).1 wNil) fApp := rfl
theorem s_ext (i : Nat) (a : PX) : wS (.ext i a) = wChg i (wCons (wX a).1 wNil) fExt := rfl
theorem s_clr (i : Nat) : wS (.clr i) = wChg i wNil fClr := rfl
theorem s_pop0 (i : Nat) : wS (.pop0 i) = wChg i wNil fPop0 := rfl
theorem s_ins (i : Nat) (a b : PX) : wS (.ins i a b) = wChg i (wCons (wX a).1 (wCons (wX b).1 wNil)) fIns := rfl
theorem s_popA (i : Nat) (a : PX) : wS (.popA i a) = wChg i (wCons (wX a).1 wNil) fPopA := rfl
theorem s_appA (i j : Nat) : wS (.appA i j) = wAppA i j := rfl
theorem s_lcl (x r k : Nat) : wS (.lcl x r k) = wLcl x r k := rfl
theorem s_asgA (i j : Nat) : wS (.asgA i j) = wAsgA i j := rfl
theorem s_appP (i : Nat) (js : List PX) (a : PX) : wS (.appP i js a) = wChgP i (wPth i js) (wCons (wX a).1 wNil) fApp := rfl
theorem s_clrP (i : Nat) (js : List PX) : wS (.clrP i js) = wChgP i (wPth i js) wNil fClr := rfl
theorem s_popP (i : Nat) (js : List PX) (a : PX) : wS (.popP i js a) = wChgP i (wPth i js) (wCons (wX a).1 wNil) fPopA := rfl
theorem s_insP (i : Nat) (js : List PX) (a b : PX) : wS (.insP i js a b) = wChgP i (wPth i js) (wCons (wX a).1 (wCons (wX b).1 wNil)) fIns := rfl
theorem wAtN_0 {x : PyData} {l : List PyData} (K : Nat → PyData → Prop) : wAtN (x :: l) 0 K .mk = K 0 x := by
  unfold wAtN ixN
  rw [if_pos (by decide), if_pos (by simp only [List.length_cons]; omega)]
  rfl
theorem wAtN_1 {x y : PyData} {l : List PyData} (K : Nat → PyData → Prop) : wAtN (x :: y :: l) 1 K .mk = K 1 y := by
  unfold wAtN ixN
  rw [if_pos (by decide), if_pos (by simp only [List.length_cons]; omega)]
  rfl
theorem wAtN_2 {x y z : PyData} {l : List PyData} (K : Nat → PyData → Prop) : wAtN (x :: y :: z :: l) 2 K .mk = K 2 z := by
  unfold wAtN ixN
  rw [if_pos (by decide), if_pos (by simp only [List.length_cons]; omega)]
  rfl
theorem wAtN_map {α : Type} (f : α → PyData) (ns : List α) {i : Int} (K : Nat → PyData → Prop) (h0 : 0 ≤ i) (h1 : i < ns.length) : wAtN (ns.map f) i K .mk = K i.toNat (f (ns[i.toNat]'(by omega))) := by
  unfold wAtN ixN
  rw [if_pos h0, if_pos (by rw [List.length_map]; exact h1)]
  show (match (ns.map f)[i.toNat]? with | some d => K i.toNat d | none => False) = _
  rw [List.getElem?_map, List.getElem?_eq_getElem (by omega)]
  rfl
theorem wAtN_last {α : Type} (f : α → PyData) (ns : List α) (x : α) (K : Nat → PyData → Prop) : wAtN ((ns ++ [x]).map f) (-1) K .mk = K ns.length (f x) := by
  unfold wAtN ixN
  rw [if_neg (by decide), if_pos (by rw [List.length_map, List.length_append, List.length_singleton]; omega)]
  have e : ((-1 : Int) + (((ns ++ [x]).map f).length : Nat)).toNat = ns.length := by
    rw [List.length_map, List.length_append, List.length_singleton]; omega
  show (match ((ns ++ [x]).map f)[((-1 : Int) + (((ns ++ [x]).map f).length : Nat)).toNat]? with | some d => K ((-1 : Int) + (((ns ++ [x]).map f).length : Nat)).toNat d | none => False) = _
  rw [e, List.getElem?_map, List.getElem?_append_right (Nat.le_refl _), Nat.sub_self]
  rfl
theorem getP_nil (d : PyData) : getP d [] = some d := by cases d <;> rfl
theorem getP_map {α : Type} (f : α → PyData) (ns : List α) {n : Nat} {js : List Nat} (h : n < ns.length) : getP (.list (ns.map f)) (n :: js) = getP (f ns[n]) js := by
  show (match (ns.map f)[n]? with | some d => getP d js | none => none) = _
  rw [List.getElem?_map, List.getElem?_eq_getElem h]
  rfl
theorem setP_map {α : Type} (f : α → PyData) (ns : List α) {n : Nat} {js : List Nat} {x : PyData} {y : α} (h : n < ns.length) (e : setP (f ns[n]) js x = f y) : setP (.list (ns.map f)) (n :: js) x = .list ((ns.set n y).map f) := by
  show (match (ns.map f)[n]? with | some d => PyData.list ((ns.map f).set n (setP d js x)) | none => .list (ns.map f)) = _
  rw [List.getElem?_map, List.getElem?_eq_getElem h, List.map_set, ← e]
  rfl
theorem getP_last {α : Type} (f : α → PyData) (ns : List α) (x : α) {js : List Nat} : getP (.list ((ns ++ [x]).map f)) (ns.length :: js) = getP (f x) js := by
  rw [getP_map f _ (by simp), List.getElem_append_right (Nat.le_refl _)]
  simp
theorem setP_last {α : Type} (f : α → PyData) (ns : List α) (x y : α) {js : List Nat} {d : PyData} (e : setP (f x) js d = f y) : setP (.list ((ns ++ [x]).map f)) (ns.length :: js) d = .list ((ns ++ [y]).map f) := by
  rw [setP_map f _ (y := y) (by simp) (by rw [List.getElem_append_right (Nat.le_refl _)]; simpa using e)]
  simp
theorem s_par (i j : Nat) (a b : PX) : wS (.par i j a b) = wPar i j (wCons (wX a).1 (wCons (wX b).1 wNil)) := rfl
theorem s_par3 (i j l : Nat) (a b c : PX) : wS (.par3 i j l a b c) = wPar3 i j l (wCons (wX a).1 (wCons (wX b).1 (wCons (wX c).1 wNil))) := rfl
theorem s_exp (a : PX) : wS (.exp a) = wDrop (wX a).1 := rfl
theorem s_ifs (c : PX) (a b : PSs) : wS (.ifs c a b) = wIfS (wX c).2 (wSs a) (wSs b) := rfl
theorem s_for (it : PXi) (g : PGt) (b : PSs) (κ : KS) (ρ : Rho) : wS (.for it g b) κ ρ = wI it ρ fun ρ1 ds => forP g b κ .mk ds ρ1 := rfl
theorem s_whl (c : PX) (b : PSs) (κ : KS) (ρ : Rho) : wS (.whl c b) κ ρ = whlP c b κ .mk ρ := rfl
theorem e_var (i : Nat) : (wX (.var i)).1 = wVar i := rfl
theorem t_var (i : Nat) : (wX (.var i)).2 = wTr (wVar i) := rfl
theorem e_mv (i : Nat) : (wX (.mv i)).1 = wMv i := rfl
theorem t_mv (i : Nat) : (wX (.mv i)).2 = wTr (wMv i) := rfl
theorem e_fz (i : Nat) : (wX (.fz i)).1 = wFz i := rfl
theorem t_fz (i : Nat) : (wX (.fz i)).2 = wTr (wFz i) := rfl
theorem e_int (n : Int) : (wX (.int n)).1 = wC (.int n) := rfl
theorem t_int (n : Int) : (wX (.int n)).2 = wTr (wC (.int n)) := rfl
theorem e_bl (b : Bool) : (wX (.bl b)).1 = wC (.bool b) := rfl
theorem t_bl (b : Bool) : (wX (.bl b)).2 = wTr (wC (.bool b)) := rfl
theorem e_non  : (wX .non).1 = wC .none := rfl
theorem t_non  : (wX .non).2 = wTr (wC .none) := rfl
theorem e_str (s : Str) : (wX (.str s)).1 = wC (.str s) := rfl
theorem t_str (s : Str) : (wX (.str s)).2 = wTr (wC (.str s)) := rfl
theorem e_bin (o : BOp) (a : PX) (b : PX) : (wX (.bin o a b)).1 = w2 (bopW o) (wX a).1 (wX b).1 := rfl
theorem t_bin (o : BOp) (a : PX) (b : PX) : (wX (.bin o a b)).2 = wTr (w2 (bopW o) (wX a).1 (wX b).1) := rfl
theorem e_cmp (o : COp) (a : PX) (b : PX) : (wX (.cmp o a b)).1 = w2 (copW o) (wX a).1 (wX b).1 := rfl
theorem t_cmp (o : COp) (a : PX) (b : PX) : (wX (.cmp o a b)).2 = wB (w2 (copW o) (wX a).1 (wX b).1) := rfl
theorem e_chain (o : COp) (o' : COp) (a : PX) (b : PX) (c : PX) : (wX (.chain o o' a b c)).1 = wChain (copW o) (copW o') (wX a).1 (wX b).1 (wX c).1 := rfl
theorem t_chain (o : COp) (o' : COp) (a : PX) (b : PX) (c : PX) : (wX (.chain o o' a b c)).2 = wB (wChain (copW o) (copW o') (wX a).1 (wX b).1 (wX c).1) := rfl
theorem e_chain3 (o : COp) (o' : COp) (o2 : COp) (a : PX) (b : PX) (c : PX) (d : PX) : (wX (.chain3 o o' o2 a b c d)).1 = wChain3 (copW o) (copW o') (copW o2) (wX a).1 (wX b).1 (wX c).1 (wX d).1 := rfl
theorem e_and (a : PX) (b : PX) : (wX (.and a b)).1 = wAnd (wX a).1 (wX b).1 := rfl
theorem t_and (a : PX) (b : PX) : (wX (.and a b)).2 = wTAnd (wX a).2 (wX b).2 := rfl
theorem e_or (a : PX) (b : PX) : (wX (.or a b)).1 = wOr (wX a).1 (wX b).1 := rfl
theorem t_or (a : PX) (b : PX) : (wX (.or a b)).2 = wTOr (wX a).2 (wX b).2 := rfl
theorem e_one (a : PX) : (wX (.one a)).1 = (wX a).1 := rfl
theorem t_one (a : PX) : (wX (.one a)).2 = (wX a).2 := rfl
theorem e_not (a : PX) : (wX (.not a)).1 = wNot (wX a).1 := rfl
theorem t_not (a : PX) : (wX (.not a)).2 = wTNot (wX a).2 := rfl
theorem e_neg (a : PX) : (wX (.neg a)).1 = wNeg (wX a).1 := rfl
theorem t_neg (a : PX) : (wX (.neg a)).2 = wTr (wNeg (wX a).1) := rfl
theorem e_ife (c : PX) (a : PX) (b : PX) : (wX (.ife c a b)).1 = wIf (wX c).2 (wX a).1 (wX b).1 := rfl
theorem e_tup (l : PXs) : (wX (.tup l)).1 = wTup (wA l) := rfl
theorem t_tup (l : PXs) : (wX (.tup l)).2 = wTr (wTup (wA l)) := rfl
theorem e_lst (l : PXs) : (wX (.lst l)).1 = wLst (wA l) := rfl
theorem t_lst (l : PXs) : (wX (.lst l)).2 = wTr (wLst (wA l)) := rfl
theorem e_ix (a : PX) (b : PX) : (wX (.ix a b)).1 = w2 wIx (wX a).1 (wX b).1 := rfl
theorem t_ix (a : PX) (b : PX) : (wX (.ix a b)).2 = wTr (w2 wIx (wX a).1 (wX b).1) := rfl
theorem e_sl (a : PX) (lo : PXo) (hi : PXo) : (wX (.sl a lo hi)).1 = wSl (wX a).1 (wO lo) (wO hi) := rfl
theorem t_sl (a : PX) (lo : PXo) (hi : PXo) : (wX (.sl a lo hi)).2 = wTr (wSl (wX a).1 (wO lo) (wO hi)) := rfl
theorem e_cb (f : Nat) (l : PXs) : (wX (.cb f l)).1 = wCB (cbW f) (wA l) := rfl
theorem t_cb (f : Nat) (l : PXs) : (wX (.cb f l)).2 = wTr (wCB (cbW f) (wA l)) := rfl
theorem e_isx (rs cs : List Str) (t : Bool) (i : Nat) : (wX (.isx rs cs t i)).1 = wIsx rs cs i := rfl
theorem t_isx (rs cs : List Str) (t : Bool) (i : Nat) : (wX (.isx rs cs t i)).2 = wTr (wIsx rs cs i) := rfl
theorem e_isi (T : Nat) (a : PX) : (wX (.isi T a)).1 = wIsi T (wX a).1 := rfl
theorem t_isi (T : Nat) (a : PX) : (wX (.isi T a)).2 = wTr (wIsi T (wX a).1) := rfl
theorem e_call (f : Str) (n : Nat) (wf : WF) (l : PXs) : (wX (.call f n wf l)).1 = wCall n wf (wA l) := rfl
theorem e_callF (f : Str) (n : Nat) (wf : WF) (l : PXs) : (wX (.callF f n wf l)).1 = wCallF n wf (wA l) := rfl
theorem t_callF (f : Str) (n : Nat) (wf : WF) (l : PXs) : (wX (.callF f n wf l)).2 = wTr (wCallF n wf (wA l)) := rfl
theorem t_call (f : Str) (n : Nat) (wf : WF) (l : PXs) : (wX (.call f n wf l)).2 = wTr (wCall n wf (wA l)) := rfl
theorem e_xt (x : ExtX) (l : PXs) : (wX (.xt x l)).1 = x.w (wL l) := rfl
theorem t_xt (x : ExtX) (l : PXs) : (wX (.xt x l)).2 = wTr (x.w (wL l)) := rfl
theorem i_xt (x : ExtI) (l : PXs) : wI (.xt x l) = x.w (wL l) := rfl
theorem s_xt (x : ExtS) (l : PXs) (b : PSs) : wS (.xt x l b) = x.w (wL l) (wSs b) := rfl
theorem e_pur (a : PX) : (wX (.pur a)).1 = wPur (wX a).1 := rfl
theorem t_pur (a : PX) : (wX (.pur a)).2 = wPurT (wX a).2 := rfl
theorem e_ixr (i : Nat) (b : PX) : (wX (.ixr i b)).1 = wIxr i (wX b).1 := rfl
theorem t_ixr (i : Nat) (b : PX) : (wX (.ixr i b)).2 = wTr (wIxr i (wX b).1) := rfl
theorem e_lrg (a : PX) : (wX (.lrg a)).1 = wLrg (wX a).1 := rfl
theorem t_lrg (a : PX) : (wX (.lrg a)).2 = wTr (wLrg (wX a).1) := rfl
theorem e_lrev (a : PX) : (wX (.lrev a)).1 = wLrev (wX a).1 := rfl
theorem t_lrev (a : PX) : (wX (.lrev a)).2 = wTr (wLrev (wX a).1) := rfl
theorem e_lc (it : PXi) (g : PGt) (c : PXo) (e : PX) (vs : List Nat) (ρ : Rho) (Q : Rho → Kd → PyData → Prop) : (wX (.lc it g c e vs)).1 ρ Q = wI it ρ fun ρ1 ds => lcP g c e vs (fun kd acc ρ' => Q ρ' (finK kd) (.list acc)) .mk ds .un [] (wipeR ρ1 vs) := rfl
theorem t_lc (it : PXi) (g : PGt) (c : PXo) (e : PX) (vs : List Nat) : (wX (.lc it g c e vs)).2 = wTr (wX (.lc it g c e vs)).1 := rfl
theorem e_lcO (i : Nat) (g : PGt) (c : PXo) (e : PX) (vs : List Nat) (ρ : Rho) (Q : Rho → Kd → PyData → Prop) : (wX (.lcO i g c e vs)).1 ρ Q = (match ρ[i]? with
  | some (some (.un, .list ds)) => flats ds = true ∧ lcP g c e vs (fun kd acc ρ' => Q (ρ'.set i (some (.un, .list ds))) (finK kd) (.list acc)) .mk (ds.map fun d => (.un, d)) .un [] (wipeR (ρ.set i none) vs)
  | _ => False) := rfl
theorem t_lcO (i : Nat) (g : PGt) (c : PXo) (e : PX) (vs : List Nat) : (wX (.lcO i g c e vs)).2 = wTr (wX (.lcO i g c e vs)).1 := rfl
theorem pow10 {j : Int} (h : 0 ≤ j) (h' : j ≤ 1000000) : CPow 10 j = True := eq_true ⟨h, h', by decide⟩
theorem pow2 {j : Int} (h : 0 ≤ j) (h' : j ≤ 1000000) : CPow 2 j = True := eq_true ⟨h, h', by decide⟩
theorem log2_big {i : Int} (h : -(10 ^ 60) ≤ i) (h' : i ≤ 10 ^ 60) : i.natAbs.log2 < 240 := by
  by_cases z : i = 0
  · subst z; decide
  · have h2 : i.natAbs < 2 ^ 240 := by
      have h3 : (10 : Int) ^ 60 < 2 ^ 240 := by decide
      have h4 : ((2 ^ 240 : Nat) : Int) = (2 : Int) ^ 240 := by norm_cast
      omega
    exact (Nat.log2_lt (by omega)).mpr h2
theorem mulBig {i j : Int} (h : -(10 ^ 60) ≤ i) (h' : i ≤ 10 ^ 60) (g : -(10 ^ 60) ≤ j) (g' : j ≤ 10 ^ 60) : CMul i j ∨ CMulW i j := by
  refine .inr ?_
  have h1 := log2_big h h'
  have h2 := log2_big g g'
  unfold CMulW
  omega
theorem flats_ints : ∀ ns : List Int, flats (ns.map PyData.int) = true
  | [] => rfl
  | _ :: ns => flats_ints ns
def cutL (ns : List Int) (lo hi : Option Int) : List Int := (ns.drop (HT.sIx ns.length 0 lo)).take (HT.sIx ns.length ns.length hi - HT.sIx ns.length 0 lo)
theorem cut_ints (ns : List Int) (lo hi : Option Int) : cutD (ns.map PyData.int) lo hi = (cutL ns lo hi).map PyData.int := by
  unfold cutD cutL
  rw [List.length_map, List.map_take, List.map_drop]
theorem cutL_le (ns : List Int) (lo hi : Option Int) : (cutL ns lo hi).length ≤ ns.length := by
  unfold cutL
  rw [List.length_take, List.length_drop]
  omega
theorem divT {i j : Int} (h0 : 0 < j) (h1 : j ≤ 10 ^ 60) : CDivW i j = True := eq_true (cDivW h0 h1)
theorem mulL {i j : Int} (h : -(10 ^ 18) ≤ i) (h' : i ≤ 10 ^ 18) : (CMul i j ∨ CMulW i j) = True := eq_true (.inl (cMul' h h'))
theorem mulR {i j : Int} (h : -(10 ^ 18) ≤ j) (h' : j ≤ 10 ^ 18) : (CMul i j ∨ CMulW i j) = True := eq_true (.inl (cMul h h'))
/-! ### objects, texts, things handed on -/
theorem kv_ob (c : ClD) (ds : List PyData) : kv .un (obD c ds) = .br := rfl
theorem kv_ob_io (c : ClD) (ds : List PyData) : kv .io (obD c ds) = .br := rfl
theorem kv_lst_io (l : List PyData) : kv .io (.list l) = .br := rfl
theorem flat_ob (c : ClD) (ds : List PyData) : flat (obD c ds) = false := rfl
theorem ak_io (d : PyData) : ak (.io, d) = (.fr, d) := rfl
theorem stK_io : stK .io = true := rfl
theorem drK_io (d : PyData) : drK .io d = some (.io, d) := rfl
theorem wObA_0 {c : ClD} {a : PyData} {l : List PyData} (K : PyData → Prop) : wObA c (obD c (a :: l)) 0 K .mk = K a := propext ⟨fun ⟨_, _, e, e2, k⟩ => by cases ob_inj e; cases e2; exact k, fun k => ⟨_, _, rfl, rfl, k⟩⟩
theorem wObA_1 {c : ClD} {a b : PyData} {l : List PyData} (K : PyData → Prop) : wObA c (obD c (a :: b :: l)) 1 K .mk = K b := propext ⟨fun ⟨_, _, e, e2, k⟩ => by cases ob_inj e; cases e2; exact k, fun k => ⟨_, _, rfl, rfl, k⟩⟩
theorem wObA_2 {c : ClD} {a b d : PyData} {l : List PyData} (K : PyData → Prop) : wObA c (obD c (a :: b :: d :: l)) 2 K .mk = K d := propext ⟨fun ⟨_, _, e, e2, k⟩ => by cases ob_inj e; cases e2; exact k, fun k => ⟨_, _, rfl, rfl, k⟩⟩
theorem wObA_3 {c : ClD} {a b d e : PyData} {l : List PyData} (K : PyData → Prop) : wObA c (obD c (a :: b :: d :: e :: l)) 3 K .mk = K e := propext ⟨fun ⟨_, _, e, e2, k⟩ => by cases ob_inj e; cases e2; exact k, fun k => ⟨_, _, rfl, rfl, k⟩⟩
theorem wObA_4 {c : ClD} {a b d e f : PyData} {l : List PyData} (K : PyData → Prop) : wObA c (obD c (a :: b :: d :: e :: f :: l)) 4 K .mk = K f := propext ⟨fun ⟨_, _, e, e2, k⟩ => by cases ob_inj e; cases e2; exact k, fun k => ⟨_, _, rfl, rfl, k⟩⟩
theorem wObA_5 {c : ClD} {a b d e f g : PyData} {l : List PyData} (K : PyData → Prop) : wObA c (obD c (a :: b :: d :: e :: f :: g :: l)) 5 K .mk = K g := propext ⟨fun ⟨_, _, e, e2, k⟩ => by cases ob_inj e; cases e2; exact k, fun k => ⟨_, _, rfl, rfl, k⟩⟩
theorem isObC_mk (c : ClD) (ds : List PyData) : isObC c (obD c ds) = True := eq_true ⟨ds, rfl⟩
theorem wObS_mk {c : ClD} {n : Nat} {ds : List PyData} (K : List PyData → Prop) : wObS c n (obD c ds) K .mk = (ds.length = n ∧ K ds) := propext ⟨fun ⟨_, e, k⟩ => by cases ob_inj e; exact k, fun k => ⟨_, rfl, k⟩⟩
theorem pop_snoc {ds : List PyData} {d : PyData} {P : List PyData → PyData → Prop} : (∃ ds0 d0, ds ++ [d] = ds0 ++ [d0] ∧ P ds0 d0) = P ds d := propext ⟨fun ⟨a, b, e, k⟩ => by
  have := List.append_inj' e rfl
  rw [this.1]
  have h2 := this.2
  injection h2 with h2
  rw [h2]
  exact k, fun k => ⟨_, _, rfl, k⟩⟩
theorem e_cpr (t : Bool) (i : Nat) : (wX (.cpr t i)).1 = wCpr t i := rfl
theorem e_att (c : ClD) (n i : Nat) : (wX (.att c n i)).1 = wAtt c n i := rfl
theorem e_meth (c : ClD) (m : Str) (n : Nat) (wf : WF) (o : PX) (l : PXs) : (wX (.meth c m n wf o l)).1 = wMeth c n wf (wX o).1 (wA l) := rfl
theorem e_make (c : ClD) (n : Nat) (wf : WF) (l : PXs) : (wX (.make c n wf l)).1 = wMake c n wf (wA l) := rfl
theorem e_gst (x s : Str) : (wX (.gst x s)).1 = wC (.str s) := rfl
theorem e_sm (f : Nat) (o : PX) (l : PXs) : (wX (.sm f o l)).1 = wSm f (wX o).1 (wA l) := rfl
theorem t_cpr (t : Bool) (i : Nat) : (wX (.cpr t i)).2 = wTr (wCpr t i) := rfl
theorem t_att (c : ClD) (n i : Nat) : (wX (.att c n i)).2 = wTr (wAtt c n i) := rfl
theorem t_meth (c : ClD) (m : Str) (n : Nat) (wf : WF) (o : PX) (l : PXs) : (wX (.meth c m n wf o l)).2 = wTr (wMeth c n wf (wX o).1 (wA l)) := rfl
theorem t_make (c : ClD) (n : Nat) (wf : WF) (l : PXs) : (wX (.make c n wf l)).2 = wTr (wMake c n wf (wA l)) := rfl
theorem t_gst (x s : Str) : (wX (.gst x s)).2 = wTr (wC (.str s)) := rfl
theorem t_sm (f : Nat) (o : PX) (l : PXs) : (wX (.sm f o l)).2 = wTr (wSm f (wX o).1 (wA l)) := rfl
theorem s_popG (g : PGt) (i : Nat) : wS (.popG g i) = wPopG i (wG g) := rfl
theorem s_asgC (g : PGt) (c : PC) : wS (.asgC g c) = wAsg (wPC c) (wG g) := rfl
theorem s_retC (c : PC) : wS (.retC c) = wRet (wPC c) := rfl
theorem s_expC (c : PC) : wS (.expC c) = wDrop (wPC c) := rfl
theorem s_appC (x : Nat) (c : PC) : wS (.appC x c) = wChg x (wCons (wPC c) wNil) fApp := rfl
theorem s_retM (i : Nat) (a : PX) : wS (.retM i a) = wRetM i (wX a).1 := rfl
theorem s_retCM (i : Nat) (c : PC) : wS (.retCM i c) = wRetM i (wPC c) := rfl
theorem s_sat (c : ClD) (n i : Nat) (a : PX) : wS (.sat c n i a) = wSat c n i (wX a).1 := rfl
end PL
namespace PL
open PySem PySem.Spec L2
/-! ### the words are monotone: a cut may be made behind a statement -/
section
variable {wa wb wc we : WE} {wt wu : WT} {was wr : WA} {wl wh : WP} {wo wo' wo2 : WO2} {wi : WI} {wg : WG} {wgs : WGs} {w u : WS}
theorem mon_if {b : Bool} {A A' B B' : Prop} (ha : A → A') (hb : B → B') (h : if b = true then A else B) : if b = true then A' else B' := by
  cases b
  · rw [if_neg Bool.false_ne_true] at h ⊢; exact hb h
  · rw [if_pos rfl] at h ⊢; exact ha h
theorem mon_boo {d : PyData} {A A' B B' : Prop} (ha : A → A') (hb : B → B') (h : boo d A B) : boo d A' B' := by
  unfold boo at h ⊢
  split at h
  · exact ha h
  · exact hb h
  · exact h.elim
theorem mon_var (i : Nat) : MonE (wVar i) := fun ρ Q Q' q h => by
  unfold wVar at h ⊢
  split at h
  · exact q _ _ _ h
  · exact h.elim
theorem mon_mv (i : Nat) : MonE (wMv i) := fun ρ Q Q' q h => by
  unfold wMv at h ⊢
  split at h
  · exact mon_if (q _ _ _) (q _ _ _) h
  · exact q _ _ _ h
  · exact q _ _ _ h
  · exact h.elim
theorem mon_fz (i : Nat) : MonE (wFz i) := fun ρ Q Q' q h => by
  unfold wFz at h ⊢
  split at h
  · exact mon_if (q _ _ _) (q _ _ _) h
  · exact q _ _ _ h
  · exact q _ _ _ h
  · exact h.elim
theorem mon_c (d : PyData) : MonE (wC d) := fun ρ Q Q' q h => q _ _ _ h
theorem mon_2 (ho : MonO wo) (ha : MonE wa) (hb : MonE wb) : MonE (w2 wo wa wb) := fun ρ Q Q' q h =>
  ha ρ _ _ (fun ρ1 k1 x h1 => hb ρ1 _ _ (fun ρ2 k2 y h2 => ho _ _ _ _ _ _ (fun k d => q ρ2 k d) h2) h1) h
theorem mon_oI {C : Int → Int → Prop} {g : Int → Int → PyData} {x y : PyData} {Q Q' : PyData → Prop} (q : ∀ d, Q d → Q' d) (h : oI C g x y Q) : oI C g x y Q' := by
  unfold oI at h ⊢
  split at h
  · exact ⟨h.1, q _ h.2⟩
  · exact h.elim
theorem mon_catT : MonO wCatT := fun k1 x k2 y Q Q' q h => by
  unfold wCatT at h ⊢
  split at h
  · exact ⟨h.1, h.2.1, h.2.2.1, h.2.2.2.1, h.2.2.2.2.1, mon_if (q _ _) (fun z => ⟨z.1, z.2.1, z.2.2.1, z.2.2.2.1, q _ _ z.2.2.2.2⟩) h.2.2.2.2.2⟩
  · exact h.elim
theorem mon_cat : MonO wCat := fun k1 x k2 y Q Q' q h => by
  unfold wCat at h ⊢
  split at h
  · exact ⟨h.1, h.2.1, h.2.2.1, mon_if (q _ _) (mon_if (q _ _) (fun z => ⟨z.1, z.2.1, z.2.2.1, z.2.2.2.1, q _ _ z.2.2.2.2⟩)) h.2.2.2⟩
  · exact h.elim
theorem mon_at {l : List PyData} {i : Int} {K K' : PyData → Prop} (q : ∀ d, K d → K' d) (h : wAt l i K .mk) : wAt l i K' .mk := by
  unfold wAt at h ⊢
  split at h
  · exact q _ h
  · exact h.elim
theorem mon_ix : MonO wIx := fun k1 x k2 y Q Q' q h => by
  unfold wIx at h ⊢
  split at h
  · exact mon_at (fun d => q _ d) h
  · exact mon_at (fun d => q _ d) h
  · refine ⟨h.1, ?_⟩
    have h := h.2
    split at h
    · exact q _ _ h
    · exact h.elim
  · exact h.elim
theorem mon_bop : ∀ o, MonO (bopW o)
  | .add => fun k1 x k2 y Q Q' q h => by
    show wAdd k1 x k2 y Q'
    have h : wAdd k1 x k2 y Q := h
    unfold wAdd at h ⊢
    split at h
    · exact q _ _ h
    · exact ⟨h.1, q _ _ h.2⟩
    · exact mon_cat _ _ _ _ _ _ q h
    · exact mon_catT _ _ _ _ _ _ q h
    · exact h.elim
  | .sub => fun k1 x k2 y Q Q' q h => mon_oI (q _) h
  | .mul => fun k1 x k2 y Q Q' q h => mon_oI (q _) h
  | .div => fun k1 x k2 y Q Q' q h => mon_oI (q _) h
  | .mod => fun k1 x k2 y Q Q' q h => mon_oI (q _) h
  | .pow => fun k1 x k2 y Q Q' q h => mon_oI (q _) h
  | .rep => fun k1 x k2 y Q Q' q h => by
    show wRep k1 x k2 y Q'
    have h : wRep k1 x k2 y Q := h
    unfold wRep at h ⊢
    split at h
    · refine ⟨h.1, h.2.1, h.2.2.1, h.2.2.2.1, ?_⟩
      have h := h.2.2.2.2
      split at h
      · rename_i f
        rw [if_pos f]
        exact q _ _ h
      · rename_i f
        rw [if_neg f]
        exact ⟨h.1, h.2.1, q _ _ h.2.2⟩
    · exact ⟨h.1, q _ _ h.2⟩
    · exact ⟨h.1, h.2.1, q _ _ h.2.2⟩
    · exact h.elim
theorem mon_cop : ∀ o, MonO (copW o)
  | .lt => fun k1 x k2 y Q Q' q h => mon_oI (q _) h
  | .le => fun k1 x k2 y Q Q' q h => mon_oI (q _) h
  | .gt => fun k1 x k2 y Q Q' q h => mon_oI (q _) h
  | .ge => fun k1 x k2 y Q Q' q h => mon_oI (q _) h
  | .eq => fun k1 x k2 y Q Q' q h => ⟨h.1, h.2.1, q _ _ h.2.2⟩
  | .ne => fun k1 x k2 y Q Q' q h => ⟨h.1, h.2.1, q _ _ h.2.2⟩
  | .is => fun k1 x k2 y Q Q' q h => by
    show wIs k1 x k2 y Q'
    have h : wIs k1 x k2 y Q := h
    unfold wIs at h ⊢
    split at h
    · exact q _ _ h
    · exact q _ _ h
    · exact h.elim
  | .isn => fun k1 x k2 y Q Q' q h => by
    show wIsNot k1 x k2 y Q'
    have h : wIsNot k1 x k2 y Q := h
    unfold wIsNot at h ⊢
    split at h
    · exact q _ _ h
    · exact q _ _ h
    · exact h.elim
  | .inn => fun k1 x k2 y Q Q' q h => by
    show wIn k1 x k2 y Q'
    have h : wIn k1 x k2 y Q := h
    unfold wIn at h ⊢
    split at h
    · exact q _ _ h
    · exact ⟨h.1, h.2.1, q _ _ h.2.2⟩
    · exact h.elim
  | .nin => fun k1 x k2 y Q Q' q h => by
    show wNotIn k1 x k2 y Q'
    have h : wNotIn k1 x k2 y Q := h
    unfold wNotIn at h ⊢
    split at h
    · exact q _ _ h
    · exact ⟨h.1, h.2.1, q _ _ h.2.2⟩
    · exact h.elim
theorem mon_chain (ho : MonO wo) (ho' : MonO wo') (ha : MonE wa) (hb : MonE wb) (hc : MonE wc) : MonE (wChain wo wo' wa wb wc) := fun ρ Q Q' q h =>
  ha ρ _ _ (fun ρ1 k1 x h1 => hb ρ1 _ _ (fun ρ2 k2 y h2 => ho _ _ _ _ _ _ (fun k z => mon_boo (fun h3 => hc _ _ _ (fun ρ3 k3 u h4 => ho' _ _ _ _ _ _ (fun k d => q ρ3 k d) h4) h3) (q _ _ _)) h2) h1) h
theorem mon_chain3 {wd : WE} (ho : MonO wo) (ho' : MonO wo') (ho2 : MonO wo2) (ha : MonE wa) (hb : MonE wb) (hc : MonE wc) (hd : MonE wd) : MonE (wChain3 wo wo' wo2 wa wb wc wd) := fun ρ Q Q' q h =>
  ha ρ _ _ (fun ρ1 k1 x h1 => hb ρ1 _ _ (fun ρ2 k2 y h2 => ho _ _ _ _ _ _ (fun k z => mon_boo (fun h3 => hc _ _ _ (fun ρ3 k3 u h4 => ho' _ _ _ _ _ _ (fun k z' => mon_boo
    (fun h5 => hd _ _ _ (fun ρ4 k4 t h6 => ho2 _ _ _ _ _ _ (fun k d => q ρ4 k d) h6) h5) (q _ _ _)) h4) h3) (q _ _ _)) h2) h1) h
theorem mon_B (ha : MonE wa) : MonT (wB wa) := fun ρ Q Q' q h => ha ρ _ _ (fun ρ1 k d h1 => by
  split at h1
  · exact q _ _ h1
  · exact h1.elim) h
theorem mon_tr (ha : MonE wa) : MonT (wTr wa) := fun ρ Q Q' q h => ha ρ _ _ (fun ρ1 k d h1 => by
  unfold wTru at h1 ⊢
  split at h1
  · exact q _ _ h1
  · exact q _ _ h1
  · exact q _ _ h1
  · exact ⟨h1.1, q _ _ h1.2⟩
  · exact q _ _ h1
  · exact q _ _ h1
  · exact h1.elim) h
theorem mon_tand (ha : MonT wt) (hb : MonT wu) : MonT (wTAnd wt wu) := fun ρ Q Q' q h => ha ρ _ _ (fun ρ1 b => mon_if (hb _ _ _ q) (q _ _)) h
theorem mon_tor (ha : MonT wt) (hb : MonT wu) : MonT (wTOr wt wu) := fun ρ Q Q' q h => ha ρ _ _ (fun ρ1 b => mon_if (q _ _) (hb _ _ _ q)) h
theorem mon_tnot (ha : MonT wt) : MonT (wTNot wt) := fun ρ Q Q' q h => ha ρ _ _ (fun ρ1 b => q _ _) h
theorem mon_and (ha : MonE wa) (hb : MonE wb) : MonE (wAnd wa wb) := fun ρ Q Q' q h => ha ρ _ _ (fun ρ1 k d => mon_boo (hb _ _ _ q) (q _ _ _)) h
theorem mon_or (ha : MonE wa) (hb : MonE wb) : MonE (wOr wa wb) := fun ρ Q Q' q h => ha ρ _ _ (fun ρ1 k d => mon_boo (q _ _ _) (hb _ _ _ q)) h
theorem mon_not (ha : MonE wa) : MonE (wNot wa) := fun ρ Q Q' q h => ha ρ _ _ (fun ρ1 k d h1 => by
  split at h1
  · exact q _ _ _ h1
  · exact h1.elim) h
theorem mon_neg (ha : MonE wa) : MonE (wNeg wa) := fun ρ Q Q' q h => ha ρ _ _ (fun ρ1 k d h1 => by
  split at h1
  · exact q _ _ _ h1
  · exact h1.elim) h
theorem mon_ife (hc : MonT wt) (ha : MonE wa) (hb : MonE wb) : MonE (wIf wt wa wb) := fun ρ Q Q' q h => hc ρ _ _ (fun ρ1 b => mon_if (ha _ _ _ q) (hb _ _ _ q)) h
theorem mon_nil : MonA wNil := fun ρ Q Q' q h => q _ _ h
theorem mon_cons (ha : MonE wa) (hr : MonA wr) : MonA (wCons wa wr) := fun ρ Q Q' q h => ha ρ _ _ (fun ρ1 k d h1 => hr _ _ _ (fun ρ2 ds => q _ _) h1) h
theorem mon_disp {ds : List Sl} {Q Q' : Kd → Prop} (q : ∀ k, Q k → Q' k) (h : wDisp ds Q) : wDisp ds Q' := mon_if (q _) (fun z => ⟨z.1, q _ z.2⟩) h
theorem mon_tup (h0 : MonA was) : MonE (wTup was) := fun ρ Q Q' q h => h0 ρ _ _ (fun ρ1 ds h1 => ⟨h1.1, mon_disp (fun k => q _ _ _) h1.2⟩) h
theorem mon_lst (h0 : MonA was) : MonE (wLst was) := fun ρ Q Q' q h => h0 ρ _ _ (fun ρ1 ds h1 => ⟨h1.1, mon_disp (fun k => q _ _ _) h1.2⟩) h
theorem mon_noP : MonP wNoP := fun ρ Q Q' q h => q _ _ h
theorem mon_soP (ha : MonE wa) : MonP (wSoP wa) := fun ρ Q Q' q h => ha ρ _ _ (fun ρ1 k d h1 => by
  split at h1
  · exact q _ _ h1
  · exact h1.elim) h
theorem mon_sl (ha : MonE wa) (hl : MonP wl) (hh : MonP wh) : MonE (wSl wa wl wh) := fun ρ Q Q' q h => ha ρ _ _ (fun ρ1 k x h1 => hl _ _ _ (fun ρ2 lo h2 => hh _ _ _ (fun ρ3 hi h3 => by
  unfold wSlc at h3 ⊢
  split at h3
  · exact mon_if (q _ _ _) (fun z => ⟨z.1, z.2.1, z.2.2.1, q _ _ _ z.2.2.2⟩) h3
  · exact ⟨h3.1, q _ _ _ h3.2⟩
  · exact ⟨h3.1, h3.2.1, q _ _ _ h3.2.2⟩
  · exact h3.elim) h2) h1) h
theorem mon_len {x : PyData} {Q Q' : PyData → Prop} (q : ∀ d, Q d → Q' d) (h : wLen x Q) : wLen x Q' := by
  unfold wLen at h ⊢
  split at h
  · exact q _ h
  · exact q _ h
  · exact ⟨h.1, q _ h.2⟩
  · exact h.elim
theorem mon_cbW : ∀ f, MonC (cbW f)
  | 0 => fun ds Q Q' q h => by
    have h : cLen ds Q := h
    show cLen ds Q'
    unfold cLen at h ⊢
    split at h
    · exact mon_len (q _) h
    · exact h.elim
  | 1 => fun ds Q Q' q h => by
    have h : cMax ds Q := h
    show cMax ds Q'
    unfold cMax at h ⊢
    split at h
    · exact q _ _ h
    · exact q _ _ h
    · obtain ⟨ns, e, l, z⟩ := h
      exact ⟨ns, e, l, fun m h1 h2 => q _ _ (z m h1 h2)⟩
    · exact h.elim
  | 2 => fun ds Q Q' q h => by
    have h : cMin ds Q := h
    show cMin ds Q'
    unfold cMin at h ⊢
    split at h
    · exact q _ _ h
    · obtain ⟨ns, e, l, z⟩ := h
      exact ⟨ns, e, l, fun m h1 h2 => q _ _ (z m h1 h2)⟩
    · exact h.elim
  | 3 => fun ds Q Q' q h => by
    have h : cList ds Q := h
    show cList ds Q'
    unfold cList at h ⊢
    split at h
    · exact mon_if (q _ _) (fun z => ⟨z.1, z.2.1, z.2.2.1, q _ _ z.2.2.2⟩) h
    · exact mon_if (q _ _) (fun z => ⟨z.1, z.2.1, z.2.2.1, q _ _ z.2.2.2⟩) h
    · exact h.elim
  | 5 => fun ds Q Q' q h => by
    have h : cSort ds Q := h
    show cSort ds Q'
    unfold cSort at h ⊢
    split at h
    · obtain ⟨l, e, z⟩ := h
      exact ⟨l, e, q _ _ z⟩
    · exact h.elim
  | 6 => fun ds Q Q' q h => by
    have h : cInt ds Q := h
    show cInt ds Q'
    unfold cInt at h ⊢
    split at h
    · exact q _ _ h
    · exact q _ _ h
    · obtain ⟨n, e, l, z⟩ := h
      exact ⟨n, e, l, q _ _ z⟩
    · exact h.elim
  | 4 => fun ds Q Q' q h => by
    have h : cTup ds Q := h
    show cTup ds Q'
    unfold cTup at h ⊢
    split at h
    · exact mon_if (q _ _) (fun z => ⟨z.1, z.2.1, z.2.2.1, q _ _ z.2.2.2⟩) h
    · exact q _ _ h
    · exact h.elim
  | 7 => fun ds Q Q' q h => by
    have h : cMnd ds Q := h
    show cMnd ds Q'
    unfold cMnd at h ⊢
    split at h
    · obtain ⟨ns, e, l, z⟩ := h
      exact ⟨ns, e, fun en => q _ _ (l en), fun m h1 h2 => q _ _ (z m h1 h2)⟩
    · obtain ⟨ns, e, l, z⟩ := h
      exact ⟨ns, e, fun en => q _ _ (l en), fun m h1 h2 => q _ _ (z m h1 h2)⟩
    · exact h.elim
  | 9 => fun ds Q Q' q h => by
    have h : cStr ds Q := h
    show cStr ds Q'
    unfold cStr at h ⊢
    split at h
    · exact ⟨h.1, q _ _ h.2⟩
    · exact h.elim
  | _ + 10 => fun ds Q Q' q h => by
    have h : cSum ds Q := h
    show cSum ds Q'
    unfold cSum at h ⊢
    split at h
    · obtain ⟨ns, e, z⟩ := h
      exact ⟨ns, e, q _ _ z⟩
    · exact h.elim
  | 8 => fun ds Q Q' q h => by
    have h : cMxd ds Q := h
    show cMxd ds Q'
    unfold cMxd at h ⊢
    split at h
    · obtain ⟨ns, e, l, z⟩ := h
      exact ⟨ns, e, fun en => q _ _ (l en), fun m h1 h2 => q _ _ (z m h1 h2)⟩
    · obtain ⟨ns, e, l, z⟩ := h
      exact ⟨ns, e, fun en => q _ _ (l en), fun m h1 h2 => q _ _ (z m h1 h2)⟩
    · exact h.elim

theorem mon_ixr (i : Nat) {wb : WE} (hb : MonE wb) : MonE (wIxr i wb) := fun ρ Q Q' q h => by
  have m2 : ∀ ρ1 j, wIxr2 i ρ1 j Q → wIxr2 i ρ1 j Q' := fun ρ1 j z => by
    unfold wIxr2 at z ⊢
    split at z
    · exact mon_at (fun d => q _ _ _) z
    · exact z.elim
  unfold wIxr at h ⊢
  split at h
  · exact hb _ _ _ (fun ρ1 k j => m2 ρ1 j) h
  · exact hb _ _ _ (fun ρ1 k j => m2 ρ1 j) h
  · exact h.elim
theorem mon_cb {wc : WC} (hc : MonC wc) (h0 : MonA was) : MonE (wCB wc was) := fun ρ Q Q' q h => h0 ρ _ _ (fun ρ1 ds h1 => hc _ _ _ (fun k d => q _ _ _) h1) h
theorem mon_isx {rs cs : List Str} {i : Nat} : MonE (wIsx rs cs i) := fun ρ Q Q' q h => by
  unfold wIsx at h ⊢
  split at h
  · exact ⟨h.1, q _ _ _ h.2⟩
  · exact h.elim
theorem mon_isi {T : Nat} (ha : MonE wa) : MonE (wIsi T wa) := fun ρ Q Q' q h => ha ρ _ _ (fun ρ1 k d => q _ _ _) h
theorem mon_call {n : Nat} {wf : WF} (hf : MonF wf) (h0 : MonA was) : MonE (wCall n wf was) := fun ρ Q Q' q h => h0 ρ _ _ (fun ρ1 ds h1 => ⟨h1.1, hf _ _ _ (fun d => q _ _ _) h1.2⟩) h
theorem mon_callF {n : Nat} {wf : WF} (hf : MonF wf) (h0 : MonA was) : MonE (wCallF n wf was) := fun ρ Q Q' q h => h0 ρ _ _ (fun ρ1 ds h1 => ⟨h1.1, h1.2.1, hf _ _ _ (fun d => q _ _ _) h1.2.2⟩) h
theorem mon_cpr (t : Bool) (i : Nat) : MonE (wCpr t i) := fun ρ Q Q' q h => by
  unfold wCpr at h ⊢
  split at h
  · exact q _ _ _ h
  · exact ⟨h.1, q _ _ _ h.2⟩
  · exact h.elim
theorem mon_att (c : ClD) (n i : Nat) : MonE (wAtt c n i) := fun ρ Q Q' q h => by
  unfold wAtt at h ⊢
  split at h
  · obtain ⟨ds, x, e1, e2, z⟩ := h
    exact ⟨ds, x, e1, e2, q _ _ _ z⟩
  · exact h.elim
theorem mon_meth {c : ClD} {n : Nat} {wf : WF} {wo : WE} (hf : MonF wf) (ho : MonE wo) (h0 : MonA was) : MonE (wMeth c n wf wo was) := fun ρ Q Q' q h => ho ρ _ _ (fun ρ1 k d h1 => ⟨h1.1, h0 ρ1 _ _ (fun ρ2 ds h2 => ⟨h2.1, hf _ _ _ (fun d => q _ _ _) h2.2⟩) h1.2⟩) h
theorem mon_make {c : ClD} {n : Nat} {wf : WF} (hf : MonF wf) (h0 : MonA was) : MonE (wMake c n wf was) := fun ρ Q Q' q h => h0 ρ _ _ (fun ρ1 ds h1 => ⟨h1.1, hf _ _ _ (fun d z => by
  split at z
  · exact q _ _ _ z
  · exact z.elim) h1.2⟩) h
theorem mon_smW : ∀ f, MonC (smW f)
  | 0 => fun ds Q Q' q h => by
    have h : sSplit ds Q := h
    show sSplit ds Q'
    unfold sSplit at h ⊢
    split at h
    · exact ⟨h.1, h.2.1, q _ _ h.2.2⟩
    · exact h.elim
  | 1 => fun ds Q Q' q h => by
    have h : sPart ds Q := h
    show sPart ds Q'
    unfold sPart at h ⊢
    split at h
    · exact ⟨h.1, h.2.1, q _ _ h.2.2⟩
    · exact h.elim
  | 2 => fun ds Q Q' q h => by
    have h : sJoin ds Q := h
    show sJoin ds Q'
    unfold sJoin at h ⊢
    split at h
    · obtain ⟨ys, e, l, z⟩ := h
      exact ⟨ys, e, l, q _ _ z⟩
    · exact h.elim
  | 3 => fun ds Q Q' q h => by
    have h : sUpper ds Q := h
    show sUpper ds Q'
    unfold sUpper at h ⊢
    split at h
    · exact ⟨h.1, q _ _ h.2⟩
    · exact h.elim
  | 4 => fun ds Q Q' q h => by
    have h : sIndex ds Q := h
    show sIndex ds Q'
    unfold sIndex at h ⊢
    split at h
    · obtain ⟨h1, h2, j, z, h3, h4, h5, h6⟩ := h
      exact ⟨h1, h2, j, z, h3, h4, h5, q _ _ h6⟩
    · exact h.elim
  | _ + 5 => fun ds Q Q' q h => h.elim
theorem mon_sm {f : Nat} {wo : WE} (ho : MonE wo) (h0 : MonA was) : MonE (wSm f wo was) := fun ρ Q Q' q h => ho ρ _ _ (fun ρ1 k d h1 => ⟨h1.1, h0 ρ1 _ _ (fun ρ2 ds h2 => mon_smW f _ _ _ (fun k d => q _ _ _) h2) h1.2⟩) h
theorem mon_str (ha : MonE wa) : MonA (wStr wa) := fun ρ Q Q' q h => ha ρ _ _ (fun ρ1 k d h1 => by
  split at h1
  · exact q _ _ h1
  · exact h1.elim) h
theorem mon_gN (i : Nat) : MonG (gN i) := fun k d ρ Q Q' q h => ⟨h.1, q _ h.2⟩
theorem mon_gsNil : MonGs gsNil := fun ds ρ Q Q' q h => by
  unfold gsNil at h ⊢
  split at h
  · exact q _ h
  · exact h.elim
theorem mon_gsCons (h1 : MonG wg) (h2 : MonGs wgs) : MonGs (gsCons wg wgs) := fun ds ρ Q Q' q h => by
  unfold gsCons at h ⊢
  split at h
  · exact h1 _ _ _ _ _ (fun ρ1 => h2 _ _ _ _ q) h
  · exact h.elim
theorem mon_gT (h : MonGs wgs) : MonG (gT wgs) := fun k d ρ Q Q' q h1 => by
  unfold gT at h1 ⊢
  split at h1
  · exact h _ _ _ _ q h1
  · exact h _ _ _ _ q h1
  · exact h1.elim
theorem mon_wApp {k : Kd} {es : List Sl} {Q Q' : Kd → Prop} (q : ∀ k, Q k → Q' k) (h : wApp k es Q) : wApp k es Q' := by
  unfold wApp at h ⊢
  exact mon_if (fun z => ⟨z.1, q _ z.2⟩) (mon_if (q _) (fun z => ⟨z.1, q _ z.2⟩)) h
theorem mon_lcW (hg : MonG wg) (ht : MonT wt) (he : MonE we) {vs : List Nat} {Q Q' : Kd → List PyData → Rho → Prop} (q : ∀ k a ρ, Q k a ρ → Q' k a ρ) : ∀ ds kd acc ρ, lcW wg wt we vs Q ds kd acc ρ → lcW wg wt we vs Q' ds kd acc ρ
  | [], kd, acc, ρ, h => q _ _ _ h
  | (k, d) :: r, kd, acc, ρ, h => hg _ _ _ _ _ (fun ρ2 h2 => ht _ _ _ (fun ρ3 b => mon_if (fun h3 => he _ _ _ (fun ρ4 k' e h4 => ⟨h4.1, mon_wApp (fun k => mon_lcW hg ht he q r _ _ _) h4.2⟩) h3) (mon_lcW hg ht he q r _ _ _)) h2) h
theorem mon_lc (hi : MonA wi) (hg : MonG wg) (ht : MonT wt) (he : MonE we) {vs : List Nat} : MonE (wLc wi wg wt we vs) := fun ρ Q Q' q h =>
  hi ρ _ _ (fun ρ1 ds => mon_lcW hg ht he (fun k a ρ => q _ _ _) _ _ _ _) h
theorem mon_walk {t : Bool} (ha : MonE wa) : MonA (wWalk t wa) := fun ρ Q Q' q h => ha ρ _ _ (fun ρ1 k d h1 => by
  split at h1
  · exact ⟨h1.1, h1.2.1, q _ _ h1.2.2⟩
  · exact ⟨h1.1, h1.2.1, q _ _ h1.2.2⟩
  · exact h1.elim) h
theorem mon_r1 (h0 : MonA was) : MonA (wR1 was) := fun ρ Q Q' q h => h0 ρ _ _ (fun ρ1 ds h1 => by
  split at h1
  · exact ⟨h1.1, h1.2.1, q _ _ h1.2.2⟩
  · exact h1.elim) h
theorem mon_r2 (h0 : MonA was) : MonA (wR2 was) := fun ρ Q Q' q h => h0 ρ _ _ (fun ρ1 ds h1 => by
  split at h1
  · exact ⟨h1.1, q _ _ h1.2⟩
  · exact h1.elim) h
theorem mon_r3 (h0 : MonA was) : MonA (wR3 was) := fun ρ Q Q' q h => h0 ρ _ _ (fun ρ1 ds h1 => by
  split at h1
  · obtain ⟨n, a, b⟩ := h1
    exact ⟨n, a, q _ _ b⟩
  · exact h1.elim) h
theorem mon_rev (ha : MonE wa) : MonA (wRev wa) := fun ρ Q Q' q h => ha ρ _ _ (fun ρ1 k d h1 => by
  split at h1
  · exact ⟨h1.1, h1.2.1, q _ _ h1.2.2⟩
  · exact h1.elim) h
theorem mon_enum (ha : MonE wa) : MonA (wEnum wa) := fun ρ Q Q' q h => ha ρ _ _ (fun ρ1 k d h1 => by
  split at h1
  · exact ⟨h1.1, h1.2.1, q _ _ h1.2.2⟩
  · exact h1.elim) h
theorem mon_forW (hg : MonG wg) (hb : MonS w) {κ κ' : KS} (q : KLe κ κ') : ∀ ds ρ, forW wg w κ ds ρ → forW wg w κ' ds ρ
  | [], ρ, h => q.nx _ h
  | (k, d) :: r, ρ, h => hg _ _ _ _ _ (fun ρ1 => hb { κ with nx := forW wg w κ r, ct := forW wg w κ r, bk := κ.nx } { κ' with nx := forW wg w κ' r, ct := forW wg w κ' r, bk := κ'.nx } _ ⟨mon_forW hg hb q r, q.rt, q.rm, q.nx, mon_forW hg hb q r⟩) h
theorem mon_chg {i : Nat} {f : List PyData → List Sl → (List PyData → Prop) → Prop} (hf : ∀ ds es (Q Q' : List PyData → Prop), (∀ x, Q x → Q' x) → f ds es Q → f ds es Q') (h0 : MonA was) : MonS (wChg i was f) := fun κ κ' ρ q h =>
  ⟨h.1, h0 _ _ _ (fun ρ1 es h1 => by
    split at h1
    · exact ⟨h1.1, hf _ _ _ _ (fun x => mon_wApp (fun k => q.nx _)) h1.2⟩
    · exact h1.elim) h.2⟩
def MonPt (w : WPt) : Prop := ∀ ρ (Q Q' : Rho → List Nat → PyData → Prop), (∀ ρ js d, Q ρ js d → Q' ρ js d) → w ρ Q → w ρ Q'
theorem mon_p0 (i : Nat) : MonPt (wP0 i) := fun ρ Q Q' q h => by
  unfold wP0 at h ⊢
  split at h
  · exact q _ _ _ h
  · exact h.elim
theorem mon_atN {ds : List PyData} {n : Int} {Q Q' : Nat → PyData → Prop} (q : ∀ m d, Q m d → Q' m d) (h : wAtN ds n Q .mk) : wAtN ds n Q' .mk := by
  unfold wAtN at h ⊢
  split at h
  · split at h
    · exact q _ _ h
    · exact h.elim
  · exact h.elim
theorem mon_pix {wp : WPt} {wi : WE} (hp : MonPt wp) (hi : MonE wi) : MonPt (wPix wp wi) := fun ρ Q Q' q h =>
  hp ρ _ _ (fun ρ1 js d h1 => hi ρ1 _ _ (fun ρ2 k j h2 => by
    split at h2
    · exact mon_atN (fun m d => q _ _ _) h2
    · exact mon_atN (fun m d => q _ _ _) h2
    · exact h2.elim) h1) h
theorem mon_chgP {i : Nat} {wp : WPt} {was : WA} {f : List PyData → List Sl → (List PyData → Prop) → Prop} (hf : ∀ ds es (Q Q' : List PyData → Prop), (∀ x, Q x → Q' x) → f ds es Q → f ds es Q') (hp : MonPt wp) (h0 : MonA was) : MonS (wChgP i wp was f) := fun κ κ' ρ q h =>
  hp ρ _ _ (fun ρ1 js d h1 => ⟨h1.1, h0 _ _ _ (fun ρ2 es h2 => ⟨h2.1, by
    have h2 := h2.2
    split at h2
    · refine ⟨h2.1, ?_⟩
      have h2 := h2.2
      split at h2
      · exact hf _ _ _ _ (fun x => q.nx _) h2
      · exact h2.elim
    · exact h2.elim⟩) h1.2⟩) h
theorem mon_fApp : ∀ ds es (Q Q' : List PyData → Prop), (∀ x, Q x → Q' x) → fApp ds es Q → fApp ds es Q' := fun ds es Q Q' q h => by
  unfold fApp at h ⊢
  split at h
  · exact ⟨h.1, q _ h.2⟩
  · exact h.elim
theorem mon_fExt : ∀ ds es (Q Q' : List PyData → Prop), (∀ x, Q x → Q' x) → fExt ds es Q → fExt ds es Q' := fun ds es Q Q' q h => by
  unfold fExt at h ⊢
  split at h
  · exact ⟨h.1, h.2.1, q _ h.2.2⟩
  · exact h.elim
theorem mon_fIns : ∀ ds es (Q Q' : List PyData → Prop), (∀ x, Q x → Q' x) → fIns ds es Q → fIns ds es Q' := fun ds es Q Q' q h => by
  unfold fIns at h ⊢
  split at h
  · exact ⟨h.1, h.2.1, h.2.2.1, q _ h.2.2.2⟩
  · exact h.elim
theorem mon_fPopA : ∀ ds es (Q Q' : List PyData → Prop), (∀ x, Q x → Q' x) → fPopA ds es Q → fPopA ds es Q' := fun ds es Q Q' q h => by
  unfold fPopA at h ⊢
  split at h
  · obtain ⟨a, b, k, c, d, e⟩ := h
    exact ⟨a, b, k, c, d, q _ e⟩
  · exact h.elim
theorem mon_set {i : Nat} (ha : MonE wa) (hb : MonE wb) : MonS (wSet i wa wb) := fun κ κ' ρ q h => ha _ _ _ (fun ρ1 k d h1 => ⟨h1.1, hb _ _ _ (fun ρ2 k2 j h2 => by
  split at h2
  · refine ⟨h2.1, ?_⟩
    have h2 := h2.2
    split at h2
    · exact mon_wApp (fun k => q.nx _) h2
    · exact h2.elim
  · exact h2.elim) h1.2⟩) h
end
theorem mon_lrg {wa : WE} (ha : MonE wa) : MonE (wLrg wa) := fun ρ Q Q' q h => ha ρ _ _ (fun ρ1 k d h1 => by
  split at h1 <;> first | exact h1.elim | exact ⟨h1.1, h1.2.1, q _ _ _ h1.2.2⟩) h
theorem mon_lrev {wa : WE} (ha : MonE wa) : MonE (wLrev wa) := fun ρ Q Q' q h => ha ρ _ _ (fun ρ1 k d h1 => by
  split at h1
  · exact ⟨h1.1, q _ _ _ h1.2⟩
  · exact h1.elim) h
theorem mon_par {i j : Nat} {was : WA} (h0 : MonA was) : MonS (wPar i j was) := fun κ κ' ρ q h => h0 _ _ _ (fun ρ1 ds h1 => by
  split at h1
  · exact ⟨h1.1, h1.2.1, q.nx _ h1.2.2⟩
  · exact h1.elim) h
theorem mon_par3 {i j l : Nat} {was : WA} (h0 : MonA was) : MonS (wPar3 i j l was) := fun κ κ' ρ q h => h0 _ _ _ (fun ρ1 ds h1 => by
  split at h1
  · exact ⟨h1.1, h1.2.1, h1.2.2.1, q.nx _ h1.2.2.2⟩
  · exact h1.elim) h
theorem mon_lcO {i : Nat} {wg : WG} {wt : WT} {we : WE} (hg : MonG wg) (ht : MonT wt) (he : MonE we) {vs : List Nat} : MonE (wLcO i wg wt we vs) := fun ρ Q Q' q h => by
  unfold wLcO at h ⊢
  split at h
  · exact ⟨h.1, mon_lcW hg ht he (fun k a ρ => q _ _ _) _ _ _ _ h.2⟩
  · exact h.elim
def okM (_ : CT) (_ : Str) (_ : Nat) (wf : WF) : Prop := MonF wf
theorem mf_gs : MonF (fun _ _ => False) := fun _ _ _ _ h => h
mutual
theorem monG : ∀ g : PGt, MonG (wG g)
  | .nm i => mon_gN i
  | .tp l => mon_gT (monGs l)
theorem monGs : ∀ l : PGts, MonGs (wGs l)
  | .nil => mon_gsNil
  | .cons g l => mon_gsCons (monG g) (monGs l)
end
mutual
theorem monX : ∀ p : PX, cOk okM p → MonE (wX p).1 ∧ MonT (wX p).2
  | .var i, _ => ⟨mon_var i, mon_tr (mon_var i)⟩
  | .mv i, _ => ⟨mon_mv i, mon_tr (mon_mv i)⟩
  | .fz i, _ => ⟨mon_fz i, mon_tr (mon_fz i)⟩
  | .int i, _ => ⟨mon_c (.int i), mon_tr (mon_c (.int i))⟩
  | .bl i, _ => ⟨mon_c (.bool i), mon_tr (mon_c (.bool i))⟩
  | .non, _ => ⟨mon_c .none, mon_tr (mon_c .none)⟩
  | .str i, _ => ⟨mon_c (.str i), mon_tr (mon_c (.str i))⟩
  | .bin o a b, h => have m := mon_2 (mon_bop o) (monX a h.1).1 (monX b h.2).1; ⟨m, mon_tr m⟩
  | .cmp o a b, h => have m := mon_2 (mon_cop o) (monX a h.1).1 (monX b h.2).1; ⟨m, mon_B m⟩
  | .chain o o' a b c, h => have m := mon_chain (mon_cop o) (mon_cop o') (monX a h.1).1 (monX b h.2.1).1 (monX c h.2.2).1; ⟨m, mon_B m⟩
  | .chain3 o o' o2 a b c d, h => ⟨mon_chain3 (mon_cop o) (mon_cop o') (mon_cop o2) (monX a h.1).1 (monX b h.2.1).1 (monX c h.2.2.1).1 (monX d h.2.2.2).1, fun _ _ _ _ z => z⟩
  | .and a b, h => ⟨mon_and (monX a h.1).1 (monX b h.2).1, mon_tand (monX a h.1).2 (monX b h.2).2⟩
  | .or a b, h => ⟨mon_or (monX a h.1).1 (monX b h.2).1, mon_tor (monX a h.1).2 (monX b h.2).2⟩
  | .one a, h => monX a h
  | .not a, h => ⟨mon_not (monX a h).1, mon_tnot (monX a h).2⟩
  | .neg a, h => have m := mon_neg (monX a h).1; ⟨m, mon_tr m⟩
  | .ife c a b, h => ⟨mon_ife (monX c h.1).2 (monX a h.2.1).1 (monX b h.2.2).1, fun _ _ _ _ z => z⟩
  | .tup l, h => have m := mon_tup (monA l h); ⟨m, mon_tr m⟩
  | .lst l, h => have m := mon_lst (monA l h); ⟨m, mon_tr m⟩
  | .ix a b, h => have m := mon_2 mon_ix (monX a h.1).1 (monX b h.2).1; ⟨m, mon_tr m⟩
  | .sl a lo hi, h => have m := mon_sl (monX a h.1).1 (monO lo h.2.1) (monO hi h.2.2); ⟨m, mon_tr m⟩
  | .cb f l, h => have m := mon_cb (mon_cbW f) (monA l h); ⟨m, mon_tr m⟩
  | .isx rs cs _ i, _ => ⟨mon_isx, mon_tr mon_isx⟩
  | .isi T a, h => have m := mon_isi (monX a h).1; ⟨m, mon_tr m⟩
  | .call f n wf l, h => have m := mon_call h.1 (monA l h.2); ⟨m, mon_tr m⟩
  | .callF f n wf l, h => have m := mon_callF h.1 (monA l h.2); ⟨m, mon_tr m⟩
  | .pur a, h => have m := monX a h; ⟨fun ρ Q Q' q z => m.1 _ _ _ (fun _ k d y => ⟨y.1, q _ _ _ y.2⟩) z, fun ρ Q Q' q z => m.2 _ _ _ (fun _ b y => q _ _ y) z⟩
  | .lrev a, h => have m := mon_lrev (monX a h).1; ⟨m, mon_tr m⟩
  | .lrg a, h => have m := mon_lrg (monX a h).1; ⟨m, mon_tr m⟩
  | .cpr t i, _ => ⟨mon_cpr t i, mon_tr (mon_cpr t i)⟩
  | .att c n i, _ => ⟨mon_att c n i, mon_tr (mon_att c n i)⟩
  | .meth c m n wf o l, h => have m := mon_meth h.1 (monX o h.2.1).1 (monA l h.2.2); ⟨m, mon_tr m⟩
  | .make c n wf l, h => have m := mon_make (c := c) h.1 (monA l h.2); ⟨m, mon_tr m⟩
  | .gst x s, _ => ⟨mon_c (.str s), mon_tr (mon_c (.str s))⟩
  | .sm f o l, h => have m := mon_sm (monX o h.1).1 (monA l h.2); ⟨m, mon_tr m⟩
  | .ixr i b, h => have m := mon_ixr i (monX b h).1; ⟨m, mon_tr m⟩
  | .lc it g c e vs, h => have m := mon_lc (monI it h.1) (monG g) (monC c h.2.1) (monX e h.2.2).1; ⟨m, mon_tr m⟩
  | .lcO i g c e vs, h => have m := mon_lcO (i := i) (vs := vs) (monG g) (monC c h.1) (monX e h.2).1; ⟨m, mon_tr m⟩
  | .xt x l, h => have m := x.mon h.1 (monL l h.2); ⟨m, mon_tr m⟩
theorem monA : ∀ l : PXs, cAs okM l → MonA (wA l)
  | .nil, _ => mon_nil
  | .cons a l, h => mon_cons (monX a h.1).1 (monA l h.2)
theorem monO : ∀ o : PXo, cOo okM o → MonP (wO o)
  | .no, _ => mon_noP
  | .so a, h => mon_soP (monX a h).1
theorem monC : ∀ o : PXo, cOo okM o → MonT (wCo o)
  | .no, _ => fun _ _ _ q h => q _ _ h
  | .so a, h => (monX a h).2
theorem monI : ∀ i : PXi, cIt okM i → MonA (wI i)
  | .li a, h => mon_walk (monX a h).1
  | .ti a, h => mon_walk (monX a h).1
  | .lq a, h => fun ρ Q Q' q z => (monX a h).1 ρ _ _ (fun ρ1 k d h1 => by
      split at h1
      · exact q _ _ h1
      · exact h1.elim) z
  | .r1 a, h => mon_r1 (mon_cons (monX a h).1 mon_nil)
  | .r2 a b, h => mon_r2 (mon_cons (monX a h.1).1 (mon_cons (monX b h.2).1 mon_nil))
  | .r3 a b c, h => mon_r3 (mon_cons (monX a h.1).1 (mon_cons (monX b h.2.1).1 (mon_cons (monX c h.2.2).1 mon_nil)))
  | .rev a, h => mon_rev (monX a h).1
  | .enum a, h => fun ρ Q Q' q z => mon_enum (monX a h).1 ρ (fun ρ1 ds => (∀ s ∈ ds, s.1 ≠ .br) ∧ Q ρ1 ds) (fun ρ1 ds => (∀ s ∈ ds, s.1 ≠ .br) ∧ Q' ρ1 ds) (fun ρ1 ds y => ⟨y.1, q _ _ y.2⟩) z
  | .st a, h => mon_str (monX a h).1
  | .xt x l, h => x.mon (monL l h)
theorem monL : ∀ l : PXs, cAs okM l → ∀ a ∈ wL l, MonE a
  | .nil, _, _, h => nomatch h
  | .cons a l, k, w, h => by
    rcases List.mem_cons.mp h with rfl | h
    · exact (monX a k.1).1
    · exact monL l k.2 w h
end
theorem monPth (i : Nat) : ∀ js : List PX, cOk okM (pthX i js) → MonPt (wPth i js)
  | [], _ => mon_p0 i
  | j :: r, h => mon_pix (monPth i r h.1) (monX j h.2).1
theorem monAp : ∀ {l1 l2 : PXs} {i : Nat}, cAs okM (appA l1 (.cons (.var i) l2)) → MonA (wA l1) ∧ MonA (wA l2)
  | .nil, l2, _, h => ⟨mon_nil, monA l2 h.2⟩
  | .cons a r, l2, _, h => ⟨mon_cons (monX a h.1).1 (monAp h.2).1, (monAp h.2).2⟩
theorem mon_mvC {n : Nat} {wf : WF} (hf : MonF wf) (h0 : MonA was) : MonE (wMvC n wf was) := fun ρ Q Q' q h => h0 ρ _ _ (fun ρ1 ds h1 => ⟨h1.1, h1.2.1, hf _ _ _ (fun d => q _ _ _) h1.2.2⟩) h
theorem mon_ioC {i p n : Nat} {wf : WF} {was1 was2 : WA} (hf : MonF wf) (h1 : MonA was1) (h2 : MonA was2) : MonE (wIoC i p n wf was1 was2) := fun ρ Q Q' q h => h1 ρ _ _ (fun ρ1 ds1 g1 => ⟨g1.1, h2 ρ1 _ _ (fun ρ2 ds2 g2 => by
  split at g2
  · refine ⟨g2.1, g2.2.1, g2.2.2.1, g2.2.2.2.1, g2.2.2.2.2.1, hf _ _ _ (fun d z => ?_) g2.2.2.2.2.2⟩
    split at z
    · exact q _ _ _ z
    · exact z.elim
  · exact g2.elim) g1.2⟩) h
theorem monPC : ∀ c : PC, cPC okM c → MonE (wPC c)
  | .mv f n wf l, h => mon_mvC h.1 (monA l h.2)
  | .io i f n wf l1 l2, h => mon_ioC h.1 (monAp h.2).1 (monAp h.2).2
mutual
theorem monSt : ∀ s : PSt, cSt okM s → MonS (wS s)
  | .skip, _ => fun κ κ' ρ q h => q.nx _ h
  | .never, _ => fun κ κ' ρ q h => h
  | .ret a, h => fun κ κ' ρ q z => (monX a h).1 _ _ _ (fun _ k d => q.rt k d) z
  | .retN, _ => fun κ κ' ρ q h => q.rt _ _ h
  | .asg g a, h => fun κ κ' ρ q z => (monX a h).1 _ _ _ (fun ρ1 k d => monG g _ _ _ _ _ q.nx) z
  | .six i ix a, h => mon_set (monX a h.2).1 (monX ix h.1).1
  | .app i a, h => mon_chg mon_fApp (mon_cons (monX a h).1 mon_nil)
  | .ext i a, h => mon_chg mon_fExt (mon_cons (monX a h).1 mon_nil)
  | .clr i, _ => mon_chg (fun _ _ _ _ q h => q _ h) mon_nil
  | .pop0 i, _ => mon_chg (fun _ _ _ _ q h => ⟨h.1, q _ h.2⟩) mon_nil
  | .ins i a b, h => mon_chg mon_fIns (mon_cons (monX a h.1).1 (mon_cons (monX b h.2).1 mon_nil))
  | .popA i a, h => mon_chg mon_fPopA (mon_cons (monX a h).1 mon_nil)
  | .appA i j, _ => fun κ κ' ρ q h => ⟨h.1, by
    have h := h.2
    split at h
    · exact ⟨h.1, h.2.1, q.nx _ h.2.2⟩
    · exact h.elim⟩
  | .asgA i j, _ => fun κ κ' ρ q h => by
    have h : wAsgA i j κ ρ := h
    show wAsgA i j κ' ρ
    unfold wAsgA at h ⊢
    split at h
    · exact ⟨h.1, q.nx _ h.2⟩
    · exact h.elim
  | .lcl x r k, _ => fun κ κ' ρ q h => by
    have h : wLcl x r k κ ρ := h
    show wLcl x r k κ' ρ
    refine ⟨h.1, h.2.1, ?_⟩
    have h := h.2.2
    split at h
    · exact ⟨h.1, q.nx _ h.2⟩
    · exact h.elim
  | .appP i js a, h => mon_chgP mon_fApp (monPth i js h.1) (mon_cons (monX a h.2).1 mon_nil)
  | .clrP i js, h => mon_chgP (fun _ _ _ _ q h => q _ h) (monPth i js h) mon_nil
  | .popP i js a, h => mon_chgP mon_fPopA (monPth i js h.1) (mon_cons (monX a h.2).1 mon_nil)
  | .insP i js a b, h => mon_chgP mon_fIns (monPth i js h.1) (mon_cons (monX a h.2.1).1 (mon_cons (monX b h.2.2).1 mon_nil))
  | .par i j a b, h => mon_par (mon_cons (monX a h.1).1 (mon_cons (monX b h.2).1 mon_nil))
  | .par3 i j l a b c, h => mon_par3 (mon_cons (monX a h.1).1 (mon_cons (monX b h.2.1).1 (mon_cons (monX c h.2.2).1 mon_nil)))
  | .exp a, h => fun κ κ' ρ q z => (monX a h).1 _ _ _ (fun ρ1 k d => q.nx _) z
  | .popG g i, _ => fun κ κ' ρ q h => by
    have h : wPopG i (wG g) κ ρ := h
    show wPopG i (wG g) κ' ρ
    unfold wPopG at h ⊢
    split at h
    · obtain ⟨h1, ds0, d, e, z⟩ := h
      exact ⟨h1, ds0, d, e, monG g _ _ _ _ _ (fun ρ => q.nx ρ) z⟩
    · exact h.elim
  | .asgC g c, h => fun κ κ' ρ q z => monPC c h _ _ _ (fun ρ1 k d => monG g _ _ _ _ _ (fun ρ => q.nx ρ)) z
  | .retC c, h => fun κ κ' ρ q z => monPC c h _ _ _ (fun _ k d => q.rt k d) z
  | .expC c, h => fun κ κ' ρ q z => monPC c h _ _ _ (fun ρ1 k d => q.nx _) z
  | .appC x c, h => mon_chg mon_fApp (mon_cons (monPC c h) mon_nil)
  | .retM i a, h => fun κ κ' ρ q z => (monX a h).1 _ _ _ (fun ρ1 k d y => by
      split at y
      · exact q.rm _ _ _ y
      · exact y.elim) z
  | .retCM i c, h => fun κ κ' ρ q z => monPC c h _ _ _ (fun ρ1 k d y => by
      split at y
      · exact q.rm _ _ _ y
      · exact y.elim) z
  | .sat c n i a, h => fun κ κ' ρ q z => (monX a h).1 _ _ _ (fun ρ1 k d y => by
      split at y
      · obtain ⟨y1, y2, ds, e1, e2, y3⟩ := y
        exact ⟨y1, y2, ds, e1, e2, q.nx _ y3⟩
      · exact y.elim) z
  | .ifs c a b, h => fun κ κ' ρ q z => (monX c h.1).2 _ _ _ (fun ρ1 x => mon_if (monSs a h.2.1 _ _ _ q) (monSs b h.2.2 _ _ _ q)) z
  | .for it g b, h => fun κ κ' ρ q z => monI it h.1 _ _ _ (fun ρ1 ds => mon_forW (monG g) (monSs b h.2) q _ _) z
  | .xt x l b, h => x.mon h.1 (monL l h.2.1) (monSs b h.2.2)
  | .whl c b, h => fun κ κ' ρ q z => by
    obtain ⟨I, h0, hs⟩ := z
    exact ⟨I, h0, fun n ρ i => (monX c h.1).2 _ _ _ (fun ρ1 x => mon_if (monSs b h.2 { κ with nx := fun ρ' => ∃ m, m < n ∧ I m ρ', ct := fun ρ' => ∃ m, m < n ∧ I m ρ', bk := κ.nx } { κ' with nx := fun ρ' => ∃ m, m < n ∧ I m ρ', ct := fun ρ' => ∃ m, m < n ∧ I m ρ', bk := κ'.nx } _ ⟨fun _ y => y, q.rt, q.rm, q.nx, fun _ y => y⟩) (q.nx _)) (hs n ρ i)⟩
theorem monSs : ∀ l : PSs, cSs okM l → MonS (wSs l)
  | .nil, _ => fun κ κ' ρ q h => q.nx _ h
  | .cons s l, h => fun κ κ' ρ q z => monSt s h.1 { κ with nx := wSs l κ } { κ' with nx := wSs l κ' } ρ ⟨fun ρ1 => monSs l h.2 _ _ _ q, q.rt, q.rm, q.bk, q.ct⟩ z
end
/-- the cut behind the first statement -/
theorem cutS {s : PSt} {l : PSs} {κ : KS} {ρ : Rho} (I : Rho → Prop) (m : cSt okM s) (h1 : wSs (.cons s .nil) { κ with nx := I } ρ) (h2 : ∀ ρ', I ρ' → wSs l κ ρ') : wSs (.cons s l) κ ρ :=
  monSt s m { κ with nx := I } { κ with nx := wSs l κ } ρ ⟨h2, fun _ _ x => x, fun _ _ _ x => x, fun _ x => x, fun _ x => x⟩ h1
def tkP : Nat → PSs → PSs
  | 0, _ => .nil
  | _ + 1, .nil => .nil
  | n + 1, .cons s l => .cons s (tkP n l)
def dpP : Nat → PSs → PSs
  | 0, l => l
  | _ + 1, .nil => .nil
  | n + 1, .cons _ l => dpP n l
/-- the cut behind the first n statements -/
theorem cutN : ∀ (n : Nat) (l : PSs) {κ : KS} {ρ : Rho} (I : Rho → Prop), cSs okM (tkP n l) → wSs (tkP n l) { κ with nx := I } ρ → (∀ ρ', I ρ' → wSs (dpP n l) κ ρ') → wSs l κ ρ
  | 0, l, κ, ρ, I, _, h1, h2 => h2 _ h1
  | n + 1, .nil, κ, ρ, I, _, h1, h2 => h2 _ h1
  | n + 1, .cons s l, κ, ρ, I, m, h1, h2 => monSt s m.1 { κ with nx := wSs (tkP n l) { κ with nx := I } } { κ with nx := wSs l κ } ρ ⟨fun ρ1 h => cutN n l I m.2 h h2, fun _ _ x => x, fun _ _ _ x => x, fun _ x => x, fun _ x => x⟩ h1
end PL
namespace PL
open PySem PySem.Spec L2
theorem fs_eq (st : Stmt) : C8.fnScope st = defScope st := by cases st <;> rfl
theorem fb_eq (st : Stmt) : C8.fnBody st = defBody st := by cases st <;> rfl
section
variable {P : Program} {w : World} {K : PySem.W.Frag} {mg : Str → Option Value} {base : Heap}
/-- the promise of a def under any name, by its text and a plain law -/
theorem fn_core {m : Mc} {st : Stmt} {ps : List Str} {body : PSs} {x q : Str} {j : Nat} {wf : WF} {f : Addr} {fd : FuncData} (T : Tx m st ps body) (F : C8.Fun K x q st f fd) (hb : ∀ y ∈ m.bn, mg y = none) (hc : cSs (CalS P w K mg base j) body)
    (hw : ∀ (ds : List Sl) (Q : PyData → Prop), wf ds Q → ds.length = ps.length → wSs body (fin Q) (ini m.N.length ds)) : FnOk P w K mg base CX0 (j + 1) f fd ps (spP K ps.length wf) := by
  refine C8.fn0 F (by rw [fs_eq]; exact T.sc) (fun vs H Q E h => ?_) (fun cdv A outer s H vs Q E hr h => ?_)
  · obtain ⟨ds, Qp, ha, hn, _⟩ := h
    rw [ha.len, hn]
  · rw [fs_eq] at hr
    rw [fs_eq, fb_eq]
    obtain ⟨ds, Qp, ha, hn, hf, hk⟩ := h
    have c : Cxs m (defScope st) j (cxOf CX0 P w K mg base m.N q (defScope st) f cdv A outer s H E).nox := cxs_of T.sc.kind T.sc.nd hb hr
    refine ⟨_, soundSs c body (defBody st) T.mt hc, ?_⟩
    have e := args_env (a := m.N.length - vs.length) (b := m.N.length - ds.length) ha (start_len ha)
    have st0 := args_st (a := m.N.length - vs.length) (b := m.N.length - ds.length) ha
    have S : St0 K H ⟨H, Hp0, Frm0⟩ (lv (start m.N vs) (ini m.N.length ds) ++ []) := by
      rw [List.append_nil]
      exact ⟨[], st0.1, .nil, (fun p hp => by simp at hp), (by rw [hide_nil]; exact fun _ _ q => q), (fun _ _ q => by cases q), st0.2⟩
    refine liftSs body T.ok ⟨H, Hp0, Frm0⟩ H (start m.N vs) (ini m.N.length ds) [] _ (fin Qp) rfl (fun c hc => by cases hc) e S (hw ds Qp hf hn) ⟨?_, fun _ _ _ _ _ z => z.elim, fun _ _ _ _ _ z => z.elim, ?_, fun _ _ _ _ _ _ z => z.elim⟩
    · intro σ H' ρ ok s1 q
      obtain ⟨E', t⟩ := s1
      exact hk .non H' .none [] (t.sm.trans hide_same) .non .nil (fun p hp => by simp at hp) q
    · intro v H' k d s1 q
      obtain ⟨E', t⟩ := s1
      have sm : Same H H' := t.sm.trans hide_same
      rcases q.1 with rfl | fl
      · have ex := t.ex
        cases ex with
        | @un _ _ F _ _ r ex =>
          cases ex
          have nd := t.nd
          have e0 : (⟨H, Hp0, Frm0⟩ : Gh).f.x = ([] : List Addr) := rfl
          rw [e0, List.append_nil] at nd
          have nw := t.nw
          rw [e0, List.append_nil] at nw
          exact hk v H' d F sm r nd nw q.2
      · have dd : Dp K H' v d := St0.dp ⟨E', t⟩
        exact hk v H' d [] sm (dp_flat dd fl) .nil (fun p hp => by simp at hp) q.2
/-- a method of the text -/
structure MDf (K : PySem.W.Frag) (c : ClD) (x q : Str) (st : Stmt) (ps : List Str) : Prop where
  ex : ∃ (C f : Addr) (fd : FuncData), PySem.W.nsIn K mainGlobals c.nm = some (some (.ref C)) ∧ Cls K C ∧ Meth K C x f ∧ C8.Fun K x q st f fd ∧ Binds K fd ps []
theorem mt_ok {m : Mc} {st : Stmt} {ps : List Str} {body : PSs} {x q : Str} {c : ClD} {j : Nat} {wf : WF} (T : Tx m st ps body) (D : MDf K c x q st ps) (hb : ∀ y ∈ m.bn, mg y = none) (hc : cSs (CalS P w K mg base j) body)
    (hw : ∀ (ds : List Sl) (Q : PyData → Prop), wf ds Q → ds.length = ps.length → wSs body (fin Q) (ini m.N.length ds)) : CalT P w K mg base (j + 1) c x ps.length wf := by
  obtain ⟨C, f, fd, h1, h2, h3, F, b⟩ := D.ex
  exact ⟨C, h1, f, fd, ps, [], h2, h3, fn_core T F hb hc hw, b, .nil⟩
/-! ### a def that is handed things of one's own -/
theorem lv_cels : ∀ {vs : List V} {ds : List Sl} {cs : List Cel} (a b : Nat), Cels vs ds cs → lv (vs.map some ++ List.replicate a none) (ds.map some ++ List.replicate b none) = cs := by
  intro vs ds cs a b h
  induction h with
  | nil => exact lv_nones a b
  | @cons v vs k d ds cs h ih => exact congrArg (List.cons (⟨v, k, d⟩ : Cel)) ih
theorem env_cels : ∀ {vs : List V} {ds : List Sl} {cs : List Cel} {a b : Nat}, Cels vs ds cs → a = b → EnvOk (vs.map some ++ List.replicate a none) (ds.map some ++ List.replicate b none) := by
  intro vs ds cs a b h e
  induction h with
  | nil =>
    subst e
    show EnvOk (List.replicate a none) (List.replicate a none)
    induction a with
    | zero => exact .e0
    | succ a ih => exact .e2 ih
  | @cons v vs k d ds cs h ih => exact .e1 (by cases k <;> rfl) ih
/-- how a def ends that changes its p-th thing -/
def finMn (p : Nat) (Q : PyData → Prop) (ρ : Rho) : Prop := match ρ[p]? with
  | some (some (.io, d0)) => Q (.tuple [.none, d0])
  | _ => False
def finM (p : Nat) (Q : PyData → Prop) : KS := { nx := finMn p Q, rt := fun _ _ => False, rm := fun k d d0 => (k = .un ∨ flat d = true) ∧ Q (.tuple [d, d0]) }
theorem fun_of {x q : Str} {st : Stmt} {f : Addr} {fd : FuncData} (F : L2.Fun K x q st f fd) : C8.Fun K x q st f fd := by
  obtain ⟨oc, od, kV, doc, pm, an, cdv, ct, osl, e, lk, hcd⟩ := F.ex
  refine ⟨oc, od, .none, kV, doc, pm, an, cdv, ct, osl, ?_, lk, hcd⟩
  rw [e, fs_eq, fb_eq]
  cases st <;> rfl
theorem fn_coreM {m : Mc} {st : Stmt} {ps : List Str} {body : PSs} {x q : Str} {j : Nat} {wf : WF} {f : Addr} {fd : FuncData} (T : Tx m st ps body) (F : C8.Fun K x q st f fd) (hb : ∀ y ∈ m.bn, mg y = none) (hc : cSs (CalS P w K mg base j) body)
    (hw : ∀ (ds : List Sl) (Q : PyData → Prop), wf ds Q → ds.length = ps.length → wSs body (fin Q) (ini m.N.length ds)) : FnOk P w K mg base CX0 (j + 1) f fd ps (spM K none ps.length wf) := by
  refine C8.fn0 F (by rw [fs_eq]; exact T.sc) (fun vs H Q E h => ?_) (fun cdv A outer s H vs Q E hr h => ?_)
  · obtain ⟨X, E, ds, cs, Qp, hc, hn, _⟩ := h
    rw [hc.len, hn]
  · rw [fs_eq] at hr
    rw [fs_eq, fb_eq]
    obtain ⟨X, Ea, ds, cs, Qp, hcs, hn, hX, hex, hnd, hsn, hf, hk⟩ := h
    have c : Cxs m (defScope st) j (cxOf CX0 P w K mg base m.N q (defScope st) f cdv A outer s H E).nox := cxs_of T.sc.kind T.sc.nd hb hr
    refine ⟨_, soundSs c body (defBody st) T.mt hc, ?_⟩
    have e := env_cels (a := m.N.length - vs.length) (b := m.N.length - ds.length) hcs (by rw [hcs.len])
    have S : St0 K H ⟨hide H Ea, Hp0, X⟩ (lv (start m.N vs) (ini m.N.length ds) ++ []) := by
      have e2 : lv (start m.N vs) (ini m.N.length ds) = cs := lv_cels _ _ hcs
      rw [e2, List.append_nil]
      exact ⟨Ea, hex, hnd, (fun p hp => hide_in hp), Same.refl _, (fun _ _ q => by cases q), hsn⟩
    refine liftSs body T.ok ⟨hide H Ea, Hp0, X⟩ H (start m.N vs) (ini m.N.length ds) [] _ (fin Qp) rfl (fun c hc => by cases hc) e S (hw ds Qp hf hn) ⟨?_, fun _ _ _ _ _ z => z.elim, fun _ _ _ _ _ z => z.elim, ?_, fun _ _ _ _ _ _ z => z.elim⟩
    · intro σ H' ρ ok s1 q
      have s2 : St0 K H' ⟨hide H Ea, Hp0, X⟩ (⟨.non, .un, .none⟩ :: []) := (s1.sub (M := lv σ ρ) (.refl _)).scal .non
      obtain ⟨E', t⟩ := s2
      exact hk .non H' .none .none E' t q
    · intro v H' k d s1 q
      have s2 : St0 K H' ⟨hide H Ea, Hp0, X⟩ (⟨v, .un, d⟩ :: []) := by
        rcases q.1 with rfl | fl
        · exact s1
        · exact s1.flatUn fl
      obtain ⟨E', t⟩ := s2
      exact hk v H' d .none E' t q.2
theorem fn_okM {m : Mc} {st : Stmt} {ps : List Str} {body : PSs} {x : Str} {j : Nat} {wf : WF} (T : Tx m st ps body) (D : Df K mg x st ps) (hb : ∀ y ∈ m.bn, mg y = none) (hc : cSs (CalS P w K mg base j) body)
    (hw : ∀ (ds : List Sl) (Q : PyData → Prop), wf ds Q → ds.length = ps.length → wSs body (fin Q) (ini m.N.length ds)) : CalM P w K mg base (j + 1) none x ps.length wf := by
  obtain ⟨f, fd, F, b, hm⟩ := D.ex
  exact ⟨f, fd, ps, fn_coreM T (fun_of F) hb hc hw, hm, F.kp, b⟩
theorem fn_coreIo {m : Mc} {st : Stmt} {ps : List Str} {body : PSs} {x q : Str} {j p : Nat} {wf : WF} {f : Addr} {fd : FuncData} (T : Tx m st ps body) (F : C8.Fun K x q st f fd) (hb : ∀ y ∈ m.bn, mg y = none) (hc : cSs (CalS P w K mg base j) body)
    (hw : ∀ (ds : List Sl) (Q : PyData → Prop), wf ds Q → ds.length = ps.length → wSs body (finM p Q) (ini m.N.length ds)) : FnOk P w K mg base CX0 (j + 1) f fd ps (spM K (some p) ps.length wf) := by
  refine C8.fn0 F (by rw [fs_eq]; exact T.sc) (fun vs H Q E h => ?_) (fun cdv A outer s H vs Q E hr h => ?_)
  · obtain ⟨X, E, ds, cs, Qp, hc, hn, _⟩ := h
    rw [hc.len, hn]
  · rw [fs_eq] at hr
    rw [fs_eq, fb_eq]
    obtain ⟨X, Ea, ds, cs, Qp, hcs, hn, hX, hex, hnd, hsn, hf, hk⟩ := h
    have c : Cxs m (defScope st) j (cxOf CX0 P w K mg base m.N q (defScope st) f cdv A outer s H E).nox := cxs_of T.sc.kind T.sc.nd hb hr
    refine ⟨_, soundSs c body (defBody st) T.mt hc, ?_⟩
    have e := env_cels (a := m.N.length - vs.length) (b := m.N.length - ds.length) hcs (by rw [hcs.len])
    have S : St0 K H ⟨hide H Ea, Hp0, X⟩ (lv (start m.N vs) (ini m.N.length ds) ++ []) := by
      have e2 : lv (start m.N vs) (ini m.N.length ds) = cs := lv_cels _ _ hcs
      rw [e2, List.append_nil]
      exact ⟨Ea, hex, hnd, (fun p hp => hide_in hp), Same.refl _, (fun _ _ q => by cases q), hsn⟩
    refine liftSs body T.ok ⟨hide H Ea, Hp0, X⟩ H (start m.N vs) (ini m.N.length ds) [] _ (finM p Qp) rfl (fun c hc => by cases hc) e S (hw ds Qp hf hn) ⟨?_, fun _ _ _ _ _ z => z.elim, fun _ _ _ _ _ z => z.elim, fun _ _ _ _ _ z => z.elim, ?_⟩
    · intro σ H' ρ ok s1 q
      have q : (match ρ[p]? with
        | some (some (.io, d0)) => Qp (.tuple [.none, d0])
        | _ => False) := q
      split at q
      · rename_i d0 eq
        obtain ⟨u, e1, p1, ok2, g⟩ := ok.slot eq
        have s2 : St0 K H' ⟨hide H Ea, Hp0, X⟩ (⟨u, .io, d0⟩ :: (lv σ (ρ.set p none) ++ [])) := s1.perm (p1.append_right [])
        have eu := s2.ioV
        subst eu
        have s3 : St0 K H' ⟨hide H Ea, Hp0, X⟩ (⟨.non, .un, .none⟩ :: [⟨X.v, .io, d0⟩]) := by
          have s4 : St0 K H' ⟨hide H Ea, Hp0, X⟩ ([⟨X.v, .io, d0⟩]) := s2.sub (M := lv σ (ρ.set p none)) (by
            rw [List.append_nil]
            exact (List.perm_append_singleton _ _).symm)
          exact s4.scal .non
        obtain ⟨E', t⟩ := s3
        exact hk .non H' .none d0 E' t q
      · exact q.elim
    · intro v H' k d d0 s1 q
      have s2 : St0 K H' ⟨hide H Ea, Hp0, X⟩ (⟨v, .un, d⟩ :: [⟨X.v, .io, d0⟩]) := by
        rcases q.1 with rfl | fl
        · exact s1
        · exact s1.flatUn fl
      obtain ⟨E', t⟩ := s2
      exact hk v H' d d0 E' t q.2
theorem fn_okIo {m : Mc} {st : Stmt} {ps : List Str} {body : PSs} {x : Str} {j p : Nat} {wf : WF} (T : Tx m st ps body) (D : Df K mg x st ps) (hb : ∀ y ∈ m.bn, mg y = none) (hc : cSs (CalS P w K mg base j) body)
    (hw : ∀ (ds : List Sl) (Q : PyData → Prop), wf ds Q → ds.length = ps.length → wSs body (finM p Q) (ini m.N.length ds)) : CalM P w K mg base (j + 1) (some p) x ps.length wf := by
  obtain ⟨f, fd, F, b, hm⟩ := D.ex
  exact ⟨f, fd, ps, fn_coreIo T (fun_of F) hb hc hw, hm, F.kp, b⟩
/-- __init__ of a class of the text -/
structure IDf (K : PySem.W.Frag) (mg : Str → Option Value) (c : ClD) (q : Str) (st : Stmt) (ps : List Str) : Prop where
  ex : ∃ (C f : Addr) (fd : FuncData), ObC K c.nm c.ns C ∧ Mk K C f ∧ mg c.nm = some (.ref C) ∧ C8.Fun K "__init__" q st f fd ∧ Binds K fd ps []
theorem mk_ok {m : Mc} {st : Stmt} {ps : List Str} {body : PSs} {q : Str} {c : ClD} {j n : Nat} {wf : WF} (T : Tx m st ps body) (D : IDf K mg c q st ps) (hn : ps.length = n + 1) (hb : ∀ y ∈ m.bn, mg y = none) (hc : cSs (CalS P w K mg base j) body)
    (hw : ∀ (ds : List Sl) (Q : PyData → Prop), wf ds Q → ds.length = ps.length → wSs body (finM 0 Q) (ini m.N.length ds)) : CalK P w K mg base (j + 1) c n wf := by
  obtain ⟨C, f, fd, h1, h2, h3, F, b⟩ := D.ex
  exact ⟨C, h1, f, fd, ps, [], h2, by rw [← hn]; exact fn_coreIo T F hb hc hw, h3, b, .nil⟩
/-! ### what the top has written of a class -/
theorem kit_ty {C : Addr} {T : String} (hm : PySem.W.kitMeta T = true) (h : PySem.W.subIn K (.ref C) (.type T) = some false) : PySem.W.kitOne K (.ref C) (.type T) = some false := by
  show (if (Value.ref C == Value.type T) = true then some true else PySem.W.kitCls K (.ref C) (.type T)) = some false
  rw [if_neg (by simp)]
  show (if PySem.W.kitMeta T = true then PySem.W.subIn K (.ref C) (.type T) else none) = some false
  rw [if_pos hm]
  exact h
theorem obC_mk {C : Addr} {c : ClD} (at_ : PySem.W.nsIn K mainGlobals c.nm = some (some (.ref C))) (cl : Cls K C)
    (ha : PySem.W.findIn K (.ref C) "__class__" = some (some (.builtin "object.__class__"))) (hn : PySem.W.specialIn K (.builtin "object.__class__") "__get__" = some (some (.builtin "getset_descriptor.__get__")))
    (tk : PySem.W.takesIn K (.builtin "object.__class__") = some true) (hm : PySem.W.mroIn K C (.type "object") = some true)
    (u0 : PySem.W.subIn K (.ref C) (.type "int") = some false) (u1 : PySem.W.subIn K (.ref C) (.type "bool") = some false) (u2 : PySem.W.subIn K (.ref C) (.type "tuple") = some false) (u3 : PySem.W.subIn K (.ref C) (.type "list") = some false) (u4 : PySem.W.subIn K (.ref C) (.type "str") = some false)
    (na : ∀ f ∈ c.ns, NoAttr K C f) : ObC K c.nm c.ns C := by
  refine ⟨at_, cl, ha, hn, tk, hm, fun T hT => ?_, na⟩
  rcases T with _ | _ | _ | _ | _ | T
  · exact kit_ty (by decide +kernel) u0
  · exact kit_ty (by decide +kernel) u1
  · exact kit_ty (by decide +kernel) u2
  · exact kit_ty (by decide +kernel) u3
  · exact kit_ty (by decide +kernel) u4
  · omega
theorem fun_mkD {x q : Str} {st : Stmt} {f : Addr} {oc : Value} {od an : Option Addr} {osl : Array (Option Value)} {dV kV doc pm cdv ct : Value} (l : K.lookup f = some ⟨oc, od, .func (PySem.W.fnOf x q (defArgs st) (defBody st) (defScope st) dV kV doc pm an cdv ct), osl⟩)
    (c : PySem.W.codeIn K cdv q = true) : C8.Fun K x q st f (PySem.W.fnOf x q (defArgs st) (defBody st) (defScope st) dV kV doc pm an cdv ct) := by
  refine ⟨oc, od, dV, kV, doc, pm, an, cdv, ct, osl, ?_, l, c⟩
  rw [fs_eq, fb_eq]
  cases st <;> rfl
theorem bindsD {x q : Str} {st : Stmt} {f : Addr} {oc : Value} {od an : Option Addr} {osl : Array (Option Value)} {kV doc pm cdv ct : Value} {T : Addr} {oT : Obj} {its : List Value} {dvs : List V} {n0 : Nat} {ps : List Str} (l : K.lookup f = some ⟨oc, od, .func (PySem.W.fnOf x q (defArgs st) (defBody st) (defScope st) (.ref T) kV doc pm an cdv ct), osl⟩)
    (c : PySem.W.codeIn K cdv q = true) (kp : PySem.W.keepIn K (.ref f) = true) (lt : K.lookup T = some oT) (ot : oT.data = .seq its.toArray n0) (vs : Vals dvs its) (hd : dvs ≠ []) (n j : Nat) (hn : n + (dvs.length - j) = ps.length)
    (h : ∀ (T : Addr) (kV doc pm : Value) (an : Option Addr) (cdv ct : Value) (us its : List Value), us.length = n → its.length = dvs.length →
      ∃ k, bindArgs (PySem.W.fnOf x q (defArgs st) (defBody st) (defScope st) (.ref T) kV doc pm an cdv ct) ⟨us, []⟩ = seqItems? (.ref T) >>= k ∧ k (some its.toArray) = pure (ps.zip (us ++ its.drop j))) :
    ∃ ds, Vals (dvs.drop j) ds ∧ Binds K (PySem.W.fnOf x q (defArgs st) (defBody st) (defScope st) (.ref T) kV doc pm an cdv ct) ps ds :=
  FunD.binds1 (kws := []) ⟨⟨oc, od, .ref T, kV, doc, pm, an, cdv, ct, osl, rfl, l, c, .inr ⟨hd, T, oT, its, n0, rfl, lt, ot, vs⟩, .inl rfl⟩, kp⟩ n j hd hn h
end
end PL
namespace PL
open PySem PySem.Spec L2
/-! ### windows: plain facts -/
def isInt (d : PyData) : Bool := match d with
  | .int _ => true
  | _ => false
def nextOpen (day a b t : Int) : Int := if t % day < a then t + a - t % day else if t % day > b then t + day + a - t % day else t
def lastOpen (day a b t : Int) : Int := if t % day > b then t + b - t % day else if t % day < a then t - day + b - t % day else t
/-- open at t: the rest lies from a to b -/
theorem open_iff {day a b t : Int} (h0 : 0 ≤ a) (h1 : a ≤ b) (h2 : b < day) : (t - a) % day ≤ b - a ↔ a ≤ t % day ∧ t % day ≤ b := by
  have e := Int.emod_add_mul_ediv t day
  have r0 := Int.emod_nonneg t (show day ≠ 0 by omega)
  have r1 := Int.emod_lt_of_pos t (show 0 < day by omega)
  by_cases c : a ≤ t % day
  · have q : (t - a) % day = t % day - a := by
      have : t - a = (t % day - a) + day * (t / day) := by omega
      rw [this, Int.add_mul_emod_self_left]
      exact Int.emod_eq_of_lt (by omega) (by omega)
    rw [q]; omega
  · have q : (t - a) % day = t % day - a + day := by
      have : t - a = (t % day - a + day) + day * (t / day - 1) := by rw [Int.mul_sub]; omega
      rw [this, Int.add_mul_emod_self_left]
      exact Int.emod_eq_of_lt (by omega) (by omega)
    rw [q]; omega
theorem mod_at {day t r k : Int} (h0 : 0 ≤ r) (h1 : r < day) (e : t = r + day * k) : t % day = r := by
  rw [e, Int.add_mul_emod_self_left]
  exact Int.emod_eq_of_lt h0 h1
theorem nextOpen_spec {day a b t : Int} (h0 : 0 ≤ a) (h1 : a ≤ b) (h2 : b < day) :
    t ≤ nextOpen day a b t ∧ nextOpen day a b t < t + day ∧ (a ≤ nextOpen day a b t % day ∧ nextOpen day a b t % day ≤ b) ∧ ∀ s, t ≤ s → s < nextOpen day a b t → ¬ (a ≤ s % day ∧ s % day ≤ b) := by
  have e := Int.emod_add_mul_ediv t day
  have r0 := Int.emod_nonneg t (show day ≠ 0 by omega)
  have r1 := Int.emod_lt_of_pos t (show 0 < day by omega)
  unfold nextOpen
  split
  · rename_i c
    have q : (t + a - t % day) % day = a := mod_at (k := t / day) (by omega) (by omega) (by omega)
    refine ⟨by omega, by omega, by rw [q]; omega, fun s s0 s1 hs => ?_⟩
    have : s % day = s - day * (t / day) := mod_at (k := t / day) (by omega) (by omega) (by omega)
    omega
  · split
    · rename_i c
      have m : day * (t / day + 1) = day * (t / day) + day := by rw [Int.mul_add, Int.mul_one]
      have q : (t + day + a - t % day) % day = a := mod_at (k := t / day + 1) (by omega) (by omega) (by omega)
      refine ⟨by omega, by omega, by rw [q]; omega, fun s s0 s1 hs => ?_⟩
      by_cases z : s < day * (t / day) + day
      · have : s % day = s - day * (t / day) := mod_at (k := t / day) (by omega) (by omega) (by omega)
        omega
      · have : s % day = s - day * (t / day + 1) := mod_at (k := t / day + 1) (by omega) (by omega) (by omega)
        omega
    · exact ⟨by omega, by omega, by omega, fun s s0 s1 => by omega⟩
theorem lastOpen_spec {day a b t : Int} (h0 : 0 ≤ a) (h1 : a ≤ b) (h2 : b < day) :
    lastOpen day a b t ≤ t ∧ t - day < lastOpen day a b t ∧ (a ≤ lastOpen day a b t % day ∧ lastOpen day a b t % day ≤ b) ∧ ∀ s, s ≤ t → lastOpen day a b t < s → ¬ (a ≤ s % day ∧ s % day ≤ b) := by
  have e := Int.emod_add_mul_ediv t day
  have r0 := Int.emod_nonneg t (show day ≠ 0 by omega)
  have r1 := Int.emod_lt_of_pos t (show 0 < day by omega)
  unfold lastOpen
  split
  · rename_i c
    have q : (t + b - t % day) % day = b := mod_at (k := t / day) (by omega) (by omega) (by omega)
    refine ⟨by omega, by omega, by rw [q]; omega, fun s s0 s1 hs => ?_⟩
    have : s % day = s - day * (t / day) := mod_at (k := t / day) (by omega) (by omega) (by omega)
    omega
  · split
    · rename_i c
      have m : day * (t / day - 1) = day * (t / day) - day := by rw [Int.mul_sub, Int.mul_one]
      have q : (t - day + b - t % day) % day = b := mod_at (k := t / day - 1) (by omega) (by omega) (by omega)
      refine ⟨by omega, by omega, by rw [q]; omega, fun s s0 s1 hs => ?_⟩
      by_cases z : s < day * (t / day)
      · have : s % day = s - day * (t / day - 1) := mod_at (k := t / day - 1) (by omega) (by omega) (by omega)
        omega
      · have : s % day = s - day * (t / day) := mod_at (k := t / day) (by omega) (by omega) (by omega)
        omega
    · exact ⟨by omega, by omega, by omega, fun s s0 s1 => by omega⟩
theorem skip3 {p q r F K : Prop} [Decidable p] [Decidable q] [Decidable r] (h : p → q → ¬ r) (k : K) : if p then (if q then (if r then F else K) else K) else K := by
  by_cases a : p
  · rw [if_pos a]
    by_cases b : q
    · rw [if_pos b, if_neg (h a b)]; exact k
    · rw [if_neg b]; exact k
  · rw [if_neg a]; exact k
end PL
namespace PL
open PySem PySem.Spec L2
/-! ### windows and lists of windows as data -/
abbrev Win := Int × Int × Int
def wd (w : Win) : PyData := .tuple [.int w.1, .int w.2.1, .int w.2.2]
def cd (l : List Win) : PyData := .list (l.map wd)
theorem flat_wd (w : Win) : flat (wd w) = true := rfl
theorem flats_wd : ∀ l : List Win, flats (l.map wd) = true
  | [] => rfl
  | _ :: l => flats_wd l
theorem shaped_wd (w : Win) : SeqAt.shaped (wd w) = true := by
  simp [wd, SeqAt.shaped, PyData.canLay0, PyData.canLayAll0, PyData.depth, PyData.depthAll]
theorem lay_cd : ∀ l : List Win, PyData.canLayAll0 (l.map wd) = true
  | [] => rfl
  | w :: l => by
    rw [List.map_cons, PyData.canLayAll0, lay_cd l, Bool.and_true]
    simp [wd, PyData.canLay0, PyData.canLayAll0]
theorem depth_cd : ∀ l : List Win, PyData.depthAll (l.map wd) ≤ 2
  | [] => by simp [PyData.depthAll]
  | w :: l => by
    have := depth_cd l
    rw [List.map_cons, PyData.depthAll]
    simp [wd, PyData.depth, PyData.depthAll]
    omega
theorem shaped_cd (l : List Win) : SeqAt.shaped (cd l) = true := by
  have h1 := lay_cd l
  have h2 := depth_cd l
  unfold SeqAt.shaped cd
  rw [PyData.canLay0, h1, Bool.true_and]
  refine decide_eq_true ?_
  rw [PyData.depth]
  omega
theorem eqv_wd (v w : Win) : PyData.eqv (wd v) (wd w) = decide (v = w) := by
  obtain ⟨a, b, c⟩ := v
  obtain ⟨x, y, z⟩ := w
  simp only [wd, PyData.eqv, PyData.eqvAll, Bool.and_true]
  by_cases h1 : a = x <;> by_cases h2 : b = y <;> by_cases h3 : c = z <;> simp [h1, h2, h3]
theorem eqvAll_wd : ∀ l m : List Win, PyData.eqvAll (l.map wd) (m.map wd) = decide (l = m)
  | [], [] => by simp [PyData.eqvAll]
  | [], _ :: _ => by simp [PyData.eqvAll]
  | _ :: _, [] => by simp [PyData.eqvAll]
  | v :: l, w :: m => by
    rw [List.map_cons, List.map_cons, PyData.eqvAll, eqv_wd, eqvAll_wd l m]
    by_cases h1 : v = w <;> by_cases h2 : l = m <;> simp [h1, h2]
theorem eqv_cd (l m : List Win) : PyData.eqv (cd l) (cd m) = decide (l = m) := by
  unfold cd
  rw [PyData.eqv, eqvAll_wd]
theorem eqv_lwd (l m : List Win) : PyData.eqv (.list (l.map wd)) (.list (m.map wd)) = decide (l = m) := eqv_cd l m
theorem shaped_lwd (l : List Win) : SeqAt.shaped (.list (l.map wd)) = true := shaped_cd l
theorem shaped_t2 (a b : Int) : SeqAt.shaped (.tuple [.int a, .int b]) = true := by
  simp [SeqAt.shaped, PyData.canLay0, PyData.canLayAll0, PyData.depth, PyData.depthAll]
theorem shaped_t3 (a b c : Int) : SeqAt.shaped (.tuple [.int a, .int b, .int c]) = true := shaped_wd (a, b, c)
theorem eqv_t2 (a b x y : Int) : PyData.eqv (.tuple [.int a, .int b]) (.tuple [.int x, .int y]) = decide (a = x ∧ b = y) := by
  simp only [PyData.eqv, PyData.eqvAll, Bool.and_true]
  by_cases h1 : a = x <;> by_cases h2 : b = y <;> simp [h1, h2]
theorem lay_ints : ∀ l : List Int, PyData.canLayAll0 (l.map .int) = true
  | [] => rfl
  | w :: l => by
    rw [List.map_cons, PyData.canLayAll0, lay_ints l, Bool.and_true]
    simp [PyData.canLay0]
theorem depth_ints : ∀ l : List Int, PyData.depthAll (l.map .int) = 0
  | [] => by simp [PyData.depthAll]
  | w :: l => by
    rw [List.map_cons, PyData.depthAll, depth_ints l]
    simp [PyData.depth]
theorem shaped_lint (l : List Int) : SeqAt.shaped (.list (l.map .int)) = true := by
  have h1 := lay_ints l
  have h2 := depth_ints l
  unfold SeqAt.shaped
  rw [PyData.canLay0, h1, Bool.true_and, PyData.depth, h2]
  rfl
theorem eqv_nil : ∀ l : List PyData, PyData.eqv (.list l) (.list []) = l.isEmpty
  | [] => by simp [PyData.eqv, PyData.eqvAll]
  | _ :: _ => by simp [PyData.eqv, PyData.eqvAll]
theorem shaped_nil : SeqAt.shaped (.list []) = true := by simp [SeqAt.shaped, PyData.canLay0, PyData.canLayAll0, PyData.depth, PyData.depthAll]

/-! ### what is a window, a clock -/
def isWin (day : Int) (d : PyData) : Bool := match d with
  | .tuple [.int a, .int b, .int c] => decide (0 ≤ a) && decide (a ≤ b) && decide (b < day) && decide (0 ≤ c)
  | _ => false
theorem isInt_shape {d : PyData} (h : isInt d = true) : ∃ i, d = .int i := by
  cases d <;> first | exact ⟨_, rfl⟩ | cases h
theorem isWin_len {day : Int} {l : List PyData} (h : l.length ≠ 3) : isWin day (.tuple l) = false := by
  unfold isWin
  split
  · rename_i e
    cases e
    exact absurd rfl h
  · rfl
theorem isWin_int {day : Int} {x y z : PyData} (h : isInt x = false ∨ isInt y = false ∨ isInt z = false) : isWin day (.tuple [x, y, z]) = false := by
  unfold isWin
  split
  · rename_i e
    cases e
    rcases h with h | h | h <;> cases h
  · rfl
def Good (day : Int) (w : Win) : Prop := 0 ≤ w.1 ∧ w.1 ≤ w.2.1 ∧ w.2.1 < day ∧ 0 ≤ w.2.2
theorem isWin_wd {day : Int} {w : Win} : isWin day (wd w) = true ↔ Good day w := by
  obtain ⟨a, b, c⟩ := w
  simp [isWin, wd, Good, and_assoc]
theorem isWin_shape {day : Int} {d : PyData} (h : isWin day d = true) : ∃ w : Win, d = wd w ∧ Good day w := by
  unfold isWin at h
  split at h
  · rename_i a b c
    refine ⟨(a, b, c), rfl, ?_⟩
    simpa [Good, and_assoc] using h
  · cases h
theorem wins_shape {day : Int} : ∀ {ds : List PyData}, (∀ d ∈ ds, isWin day d = true) → ∃ l : List Win, ds = l.map wd ∧ ∀ w ∈ l, Good day w
  | [], _ => ⟨[], rfl, fun w hw => by cases hw⟩
  | d :: ds, h => by
    obtain ⟨w, rfl, g⟩ := isWin_shape (h d List.mem_cons_self)
    obtain ⟨l, rfl, gl⟩ := wins_shape fun x hx => h x (List.mem_cons_of_mem _ hx)
    exact ⟨w :: l, rfl, fun x hx => by 
      rcases List.mem_cons.mp hx with rfl | hx
      · exact g
      · exact gl x hx⟩
def isBoard (day : Int) (d : PyData) : Bool := match d with
  | .list ds => ds.all (isWin day)
  | _ => false
/-- there may stand right behind here -/
def fol (h t : Win) : Bool := if t.1 ≤ h.2.1 ∨ t.1 + t.2.2 ≤ h.2.1 + h.2.2 then false else if h.2.1 + 1 < t.1 then true else decide (h.2.2 ≠ t.2.2)
def chn : List Win → Bool
  | [] => true
  | [_] => true
  | h :: t :: l => fol h t && chn (t :: l)
/-- a list of windows is a clock -/
def clk (day : Int) : List Win → Bool
  | [] => true
  | f :: l => chn (f :: l) && decide (((f :: l).getLastD f).2.1 + ((f :: l).getLastD f).2.2 < day + f.1 + f.2.2)
def winOf (d : PyData) : Win := match d with
  | .tuple [.int a, .int b, .int c] => (a, b, c)
  | _ => (0, 0, 0)
def isClk (day : Int) (d : PyData) : Bool := match d with
  | .list ds => ds.all (isWin day) && clk day (ds.map winOf)
  | _ => false
theorem winOf_wd (w : Win) : winOf (wd w) = w := rfl
theorem winOf_map (l : List Win) : (l.map wd).map winOf = l := by
  rw [List.map_map]
  exact (List.map_congr_left fun w _ => winOf_wd w).trans (List.map_id l)
structure Clk (day : Int) (l : List Win) : Prop where
  good : ∀ w ∈ l, Good day w
  ok : clk day l = true
theorem isClk_cd {day : Int} {l : List Win} : isClk day (cd l) = true ↔ Clk day l := by
  unfold isClk cd
  simp only [Bool.and_eq_true, List.all_eq_true, winOf_map]
  constructor
  · rintro ⟨h1, h2⟩
    exact ⟨fun w hw => isWin_wd.mp (h1 _ (List.mem_map_of_mem hw)), h2⟩
  · rintro ⟨h1, h2⟩
    refine ⟨fun d hd => ?_, h2⟩
    obtain ⟨w, hw, rfl⟩ := List.mem_map.mp hd
    exact isWin_wd.mpr (h1 w hw)

/-! ### what a clock tells -/
def setOff (day : Int) (l : List Win) (t : Int) : Option (Int × Int) := match l with
  | [] => none
  | f :: _ => match l.find? fun w => decide (t % day ≤ w.2.1) with
    | some w => some (t + max (w.1 - t % day) 0, t + max (w.1 - t % day) 0 + w.2.2)
    | none => some (t - t % day + day + f.1, t - t % day + day + f.1 + f.2.2)
def comeO (day : Int) (l : List Win) (t : Int) : Option Int := (setOff day l t).map (·.2)
def optD (o : Option Int) : PyData := match o with
  | some x => .int x
  | none => .none
def optP (o : Option (Int × Int)) : PyData := match o with
  | some x => .tuple [.int x.1, .int x.2]
  | none => .none
/-- the latest from which one comes by s: the greatest of what the windows tell -/
def IsLeave (day : Int) (l : List Win) (s x : Int) : Prop := (∃ w ∈ l, x = lastOpen day w.1 w.2.1 (s - w.2.2)) ∧ ∀ w ∈ l, lastOpen day w.1 w.2.1 (s - w.2.2) ≤ x
/-- data of windows alone -/
def AllWd (ds : List PyData) : Prop := ∃ l : List Win, ds = l.map wd
theorem allWd_map (l : List Win) : AllWd (l.map wd) = True := eq_true ⟨l, rfl⟩
theorem ints_map : ∀ ns : List Int, ints? (ns.map PyData.int) = some ns
  | [] => rfl
  | n :: ns => by
    rw [List.map_cons, ints?, ints_map ns]
    rfl
theorem setOff_none {day : Int} {l : List Win} {t : Int} (h : setOff day l t = none) : l = [] := by
  cases l with
  | nil => rfl
  | cons f l =>
    unfold setOff at h
    cases e : (f :: l).find? (fun w => decide (t % day ≤ w.2.1)) with
    | none => rw [e] at h; cases h
    | some w => rw [e] at h; cases h
theorem setOff_cons (day : Int) (f : Win) (l : List Win) (t : Int) : setOff day (f :: l) t = (match (f :: l).find? fun w => decide (t % day ≤ w.2.1) with
    | some w => some (t + max (w.1 - t % day) 0, t + max (w.1 - t % day) 0 + w.2.2)
    | none => some (t - t % day + day + f.1, t - t % day + day + f.1 + f.2.2)) := rfl
/-! ### standing -/
theorem clk_stand {d : Int} (h : 1 ≤ d) : Clk d [(0, d - 1, 0)] := by
  refine ⟨fun w hw => ?_, ?_⟩
  · rw [List.mem_singleton.mp hw]
    exact ⟨by show (0 : Int) ≤ 0; omega, by show (0 : Int) ≤ d - 1; omega, by show d - 1 < d; omega, by show (0 : Int) ≤ 0; omega⟩
  · show (true && decide (d - 1 + 0 < d + 0 + 0)) = true
    rw [decide_eq_true (by omega)]
    rfl
theorem setOff_stand {d t : Int} (h : 1 ≤ d) : setOff d [(0, d - 1, 0)] t = some (t, t) := by
  have r0 := Int.emod_nonneg t (show d ≠ 0 by omega)
  have r1 := Int.emod_lt_of_pos t (show 0 < d by omega)
  rw [setOff_cons, List.find?_cons]
  have e : decide (t % d ≤ ((0, d - 1, 0) : Win).2.1) = true := decide_eq_true (by show t % d ≤ d - 1; omega)
  rw [e]
  have m : max (0 - t % d) 0 = 0 := by omega
  show some (t + max (0 - t % d) 0, t + max (0 - t % d) 0 + 0) = some (t, t)
  rw [m]
  simp
theorem leave_stand {d s x : Int} (h : 1 ≤ d) (l : IsLeave d [(0, d - 1, 0)] s x) : x = s := by
  have r0 := Int.emod_nonneg s (show d ≠ 0 by omega)
  have r1 := Int.emod_lt_of_pos s (show 0 < d by omega)
  obtain ⟨⟨w, hw, e⟩, _⟩ := l
  rw [List.mem_singleton.mp hw] at e
  have e : x = lastOpen d 0 (d - 1) (s - 0) := e
  rw [Int.sub_zero] at e
  unfold lastOpen at e
  rw [if_neg (by omega), if_neg (by omega)] at e
  exact e
theorem chn_drop {l : List Win} {j : Nat} (h : j + 1 < l.length) : chn (l.drop j) = (fol (l[j]'(by omega)) l[j + 1] && chn (l.drop (j + 1))) := by
  rw [List.drop_eq_getElem_cons (show j < l.length by omega), List.drop_eq_getElem_cons h]
  rfl
theorem chn_last {l : List Win} {j : Nat} (h : j + 1 = l.length) : chn (l.drop j) = true := by
  rw [List.drop_eq_getElem_cons (show j < l.length by omega), List.drop_eq_nil_of_le (by omega)]
  rfl
theorem clk_eq {day : Int} {l : List Win} (h : 0 < l.length) : clk day l = (chn l && decide ((l[l.length - 1]'(by omega)).2.1 + (l[l.length - 1]'(by omega)).2.2 < day + l[0].1 + l[0].2.2)) := by
  cases l with
  | nil => simp at h
  | cons f l =>
    have : (f :: l).getLastD f = (f :: l)[(f :: l).length - 1]'(by simp) := by
      rw [List.getLastD_eq_getLast?, List.getLast?_eq_getElem?, List.getElem?_eq_getElem (by simp)]
      rfl
    show (chn (f :: l) && decide (((f :: l).getLastD f).2.1 + ((f :: l).getLastD f).2.2 < day + f.1 + f.2.2)) = _
    rw [this]
    rfl
/-! ### rows that the laws make -/
theorem chn_snoc (w : Win) : ∀ l : List Win, chn (l ++ [w]) = (chn l && (match l.getLast? with | some h => fol h w | none => true))
  | [] => rfl
  | [h] => by
    show (fol h w && chn [w]) = (chn [h] && fol h w)
    show (fol h w && true) = (true && fol h w)
    rw [Bool.and_true, Bool.true_and]
  | h :: t :: l => by
    have ih := chn_snoc w (t :: l)
    show (fol h t && chn ((t :: l) ++ [w])) = _
    rw [ih, List.getLast?_cons_cons]
    show _ = ((fol h t && chn (t :: l)) && _)
    rw [Bool.and_assoc]
def lifted (k : Int) (w : Win) : Win := (w.1, w.2.1, w.2.2 + k)
theorem fol_lifted (k : Int) (v w : Win) : fol (lifted k v) (lifted k w) = fol v w := by
  have e1 : (v.2.2 + k ≠ w.2.2 + k) = (v.2.2 ≠ w.2.2) := by apply propext; omega
  have e2 : (w.1 ≤ v.2.1 ∨ w.1 + (w.2.2 + k) ≤ v.2.1 + (v.2.2 + k)) = (w.1 ≤ v.2.1 ∨ w.1 + w.2.2 ≤ v.2.1 + v.2.2) := by apply propext; omega
  unfold fol lifted
  simp only [e1, e2]
theorem chn_lifted (k : Int) : ∀ l : List Win, chn (l.map (lifted k)) = chn l
  | [] => rfl
  | [_] => rfl
  | v :: w :: l => by
    show (fol (lifted k v) (lifted k w) && chn ((w :: l).map (lifted k))) = (fol v w && chn (w :: l))
    rw [fol_lifted, chn_lifted k (w :: l)]
/-- the least day that has room -/
def leastDay (l : List Win) : Int := match l with
  | [] => 1
  | f :: r => max (((f :: r).getLastD f).2.1 + 1) (((f :: r).getLastD f).2.1 + ((f :: r).getLastD f).2.2 - f.1 - f.2.2 + 1)
theorem getLastD_at {l : List Win} {f : Win} (h : 0 < l.length) : l.getLastD f = l[l.length - 1]'(by omega) := by
  rw [List.getLastD_eq_getLast?, List.getLast?_eq_getElem?, List.getElem?_eq_getElem (by omega)]
  rfl
structure RowsOk (lift : Int) (rows : List Win) : Prop where
  chn : chn rows = true
  ok : ∀ w ∈ rows, 0 ≤ w.1 ∧ w.1 ≤ w.2.1 ∧ w.2.1 ≤ 10 ^ 15 ∧ lift ≤ w.2.2 ∧ w.2.2 ≤ lift + 10 ^ 15
/-- how far the making of rows has come -/
structure Mk (n : Nat) (rows : List Win) (t ride : Int) : Prop where
  chn : PL.chn rows = true
  ok : ∀ w ∈ rows, 0 ≤ w.1 ∧ w.1 ≤ w.2.1 ∧ w.2.1 < t ∧ 0 ≤ w.2.2 ∧ w.2.2 ≤ (n : Int) * 2000000000000
  len : rows.length = n
  t0 : 0 ≤ t
  t1 : t ≤ (n : Int) * 3000000000000
  r0 : 0 ≤ ride
  r1 : ride ≤ (n : Int) * 2000000000000
  last : ∀ h, rows.getLast? = some h → h.2.1 + 1 = t ∧ h.2.2 = ride
theorem Mk.nil : Mk 0 [] 0 0 := ⟨rfl, (fun w hw => by cases hw), rfl, by omega, by omega, by omega, by omega, fun h e => by cases e⟩
theorem Mk.step {n : Nat} {rows : List Win} {t ride gap size more : Int} (m : Mk n rows t ride) (g0 : 0 ≤ gap) (g1 : gap < 1000000000000) (s0 : 0 ≤ size) (s1 : size < 1000000000000) (m0 : 0 ≤ more) (m1 : more < 1000000000000)
    {ride' : Int} (hr : ride' = max (ride - gap) 0 + more ∨ ride' = max (ride - gap) 0 + more + 1) (hd : rows ≠ [] → gap = 0 → more = 0 → ride' = max (ride - gap) 0 + more + 1) (hd2 : ride' = max (ride - gap) 0 + more ∨ more = 0) :
    Mk (n + 1) (rows ++ [(t + gap, t + gap + size, ride')]) (t + gap + size + 1) ride' := by
  have cn : ((n + 1 : Nat) : Int) = (n : Int) + 1 := by omega
  have hr0 := m.r0
  have hr1 := m.r1
  have ht0 := m.t0
  have ht1 := m.t1
  refine ⟨?_, fun w hw => ?_, by rw [List.length_append, m.len]; rfl, by omega, by rw [cn]; omega, by omega, by rw [cn]; omega, fun h e => ?_⟩
  · rw [chn_snoc, m.chn, Bool.true_and]
    cases e : rows.getLast? with
    | none => rfl
    | some h =>
      obtain ⟨l1, l2⟩ := m.last h e
      have ne : rows ≠ [] := fun z => by rw [z] at e; cases e
      have hd := hd ne
      show fol h (t + gap, t + gap + size, ride') = true
      unfold fol
      have c1 : ¬ (t + gap ≤ h.2.1 ∨ t + gap + ride' ≤ h.2.1 + h.2.2) := by omega
      show (if t + gap ≤ h.2.1 ∨ t + gap + ride' ≤ h.2.1 + h.2.2 then false else if h.2.1 + 1 < t + gap then true else decide (h.2.2 ≠ ride')) = true
      rw [if_neg c1]
      split
      · rfl
      · rename_i c2
        refine decide_eq_true ?_
        have : gap = 0 := by omega
        omega
  · rw [cn]
    rcases List.mem_append.mp hw with hw | hw
    · obtain ⟨a, b, c, d, e⟩ := m.ok w hw
      exact ⟨a, b, by omega, d, by omega⟩
    · rw [List.mem_singleton.mp hw]
      exact ⟨by show 0 ≤ t + gap; omega, by show t + gap ≤ t + gap + size; omega, by show t + gap + size < _; omega, by show 0 ≤ ride'; omega, by show ride' ≤ _; omega⟩
  · rw [List.getLast?_append, List.getLast?_singleton] at e
    cases e
    exact ⟨rfl, rfl⟩
theorem Mk.rows {n : Nat} {rows : List Win} {t ride lift : Int} (m : Mk n rows t ride) (hn : n ≤ 63) (hl : 0 ≤ lift) : RowsOk lift (rows.map (lifted lift)) := by
  refine ⟨by rw [chn_lifted]; exact m.chn, fun w hw => ?_⟩
  obtain ⟨v, hv, rfl⟩ := List.mem_map.mp hw
  obtain ⟨a, b, c, d, e⟩ := m.ok v hv
  have := m.t1
  exact ⟨a, b, by show v.2.1 ≤ _; omega, by show lift ≤ v.2.2 + lift; omega, by show v.2.2 + lift ≤ _; omega⟩
/-- one turn over a window, taken apart -/
theorem forP_win {i j m : Nat} {b : PSs} {κ : KS} {t : Tg κ} {ρ : Rho} {k : Kd} {w : Win} {r : List Sl}
    (h : wSs b { κ with nx := forP (.tp (.cons (.nm i) (.cons (.nm j) (.cons (.nm m) .nil)))) b κ t r, ct := forP (.tp (.cons (.nm i) (.cons (.nm j) (.cons (.nm m) .nil)))) b κ t r, bk := κ.nx } (((ρ.set i (some (.un, .int w.1))).set j (some (.un, .int w.2.1))).set m (some (.un, .int w.2.2)))) :
    forP (.tp (.cons (.nm i) (.cons (.nm j) (.cons (.nm m) .nil)))) b κ t ((k, wd w) :: r) ρ := ⟨rfl, rfl, rfl, h⟩
end PL
namespace PL
open PySem PySem.Spec L2
/-! ### departures -/
/-- at m one may set off, and comes at y -/
def Dep (day : Int) (l : List Win) (m y : Int) : Prop := ∃ w ∈ l, (w.1 ≤ m % day ∧ m % day ≤ w.2.1) ∧ y = m + w.2.2
def Bef (u v : Win) : Prop := u.2.1 < v.1 ∧ u.2.1 + u.2.2 < v.1 + v.2.2
theorem fol_bef {u v : Win} (h : fol u v = true) : Bef u v := by
  unfold fol at h
  split at h
  · cases h
  · rename_i c
    exact ⟨by omega, by omega⟩
theorem chn_tail {u : Win} {l : List Win} (h : chn (u :: l) = true) : chn l = true := by
  cases l with
  | nil => rfl
  | cons v l => exact (Bool.and_eq_true_iff.mp h).2
theorem bef_all {u : Win} : ∀ {l : List Win}, (∀ w ∈ l, w.1 ≤ w.2.1) → chn (u :: l) = true → ∀ v ∈ l, Bef u v
  | [], _, _, v, hv => by cases hv
  | x :: l, g, h, v, hv => by
    have h1 := fol_bef (Bool.and_eq_true_iff.mp h).1
    rcases List.mem_cons.mp hv with rfl | hv
    · exact h1
    · have h2 := bef_all (fun w hw => g w (List.mem_cons_of_mem _ hw)) (Bool.and_eq_true_iff.mp h).2 v hv
      have gx := g x List.mem_cons_self
      exact ⟨by have := h1.1; have := h2.1; omega, by have := h1.2; have := h2.2; omega⟩
theorem chn_pair : ∀ {l : List Win}, (∀ w ∈ l, w.1 ≤ w.2.1) → chn l = true → l.Pairwise Bef
  | [], _, _ => .nil
  | u :: l, g, h => .cons (bef_all (fun w hw => g w (List.mem_cons_of_mem _ hw)) h) (chn_pair (fun w hw => g w (List.mem_cons_of_mem _ hw)) (chn_tail h))
theorem Clk.pair {day : Int} {l : List Win} (c : Clk day l) : l.Pairwise Bef := by
  cases l with
  | nil => exact .nil
  | cons f l =>
    have h : (chn (f :: l) && _) = true := c.ok
    exact chn_pair (fun w hw => (c.good w hw).2.1) (Bool.and_eq_true_iff.mp h).1
theorem last_max {P : Win → Win → Prop} (refl : ∀ w, P w w) : ∀ {f : Win} {l : List Win}, (f :: l).Pairwise (fun u v => P u v) → ∀ w ∈ f :: l, P w ((f :: l).getLastD f)
  | f, [], _, w, hw => by rw [List.mem_singleton.mp hw]; exact refl f
  | f, g :: l, h, w, hw => by
    have e : (f :: g :: l).getLastD f = (g :: l).getLastD g := by simp [List.getLastD]
    rw [e]
    cases h with
    | cons h1 h2 =>
      rcases List.mem_cons.mp hw with rfl | hw
      · refine h1 _ ?_
        rw [List.getLastD_eq_getLast?]
        cases q : (g :: l).getLast? with
        | none => simp at q
        | some z => exact List.mem_of_getLast? q
      · exact last_max refl h2 w hw
/-- the last comes after each, and a day later the first after the last -/
theorem Clk.wrap {day : Int} {f : Win} {l : List Win} (c : Clk day (f :: l)) : ∀ w ∈ f :: l, w.2.1 + w.2.2 < day + f.1 + f.2.2 := by
  intro w hw
  have h : (chn (f :: l) && decide _) = true := c.ok
  have h2 := of_decide_eq_true (Bool.and_eq_true_iff.mp h).2
  have p := c.pair
  have h3 : w.2.1 + w.2.2 ≤ ((f :: l).getLastD f).2.1 + ((f :: l).getLastD f).2.2 := by
    have g : ∀ v ∈ f :: l, v.1 ≤ v.2.1 := fun v hv => (c.good v hv).2.1
    have p2 : (f :: l).Pairwise (fun u v => u.2.1 + u.2.2 ≤ v.2.1 + v.2.2) := by
      refine List.Pairwise.imp_of_mem (fun {a b} ha hb h => ?_) p
      have := h.2
      have := g b hb
      omega
    exact last_max (P := fun u v => u.2.1 + u.2.2 ≤ v.2.1 + v.2.2) (fun w => by omega) p2 w hw
  omega
theorem Clk.first {day : Int} {f : Win} {l : List Win} (c : Clk day (f :: l)) : ∀ w ∈ f :: l, w = f ∨ Bef f w := by
  intro w hw
  rcases List.mem_cons.mp hw with rfl | hw
  · exact .inl rfl
  · have p := c.pair
    cases p with
    | cons h1 h2 => exact .inr (h1 w hw)
theorem pair_or {R : Win → Win → Prop} : ∀ {l : List Win}, l.Pairwise R → ∀ u ∈ l, ∀ v ∈ l, u = v ∨ R u v ∨ R v u
  | _, .nil, u, hu, _, _ => by cases hu
  | _, .cons h1 h2, u, hu, v, hv => by
    rcases List.mem_cons.mp hu with e | hu'
    · rcases List.mem_cons.mp hv with e' | hv'
      · exact .inl (e.trans e'.symm)
      · exact .inr (.inl (by rw [e]; exact h1 v hv'))
    · rcases List.mem_cons.mp hv with e' | hv'
      · exact .inr (.inr (by rw [e']; exact h1 u hu'))
      · exact pair_or h2 u hu' v hv'
section
variable {day : Int} {l : List Win} (c : Clk day l)
theorem Clk.pos (c : Clk day l) (h : l ≠ []) : 0 < day := by
  cases l with
  | nil => exact absurd rfl h
  | cons f l =>
    obtain ⟨a, b, d, _⟩ := c.good f List.mem_cons_self
    omega
/-- at one moment one window alone is open -/
theorem Clk.uni (c : Clk day l) {u v : Win} (hu : u ∈ l) (hv : v ∈ l) {r : Int} (h1 : u.1 ≤ r ∧ r ≤ u.2.1) (h2 : v.1 ≤ r ∧ r ≤ v.2.1) : u = v := by
  rcases pair_or c.pair u hu v hv with h | h | h
  · exact h
  · have := h.1; omega
  · have := h.1; omega
theorem Clk.fun_ (c : Clk day l) {m y y' : Int} (h : Dep day l m y) (h' : Dep day l m y') : y = y' := by
  obtain ⟨u, hu, o1, rfl⟩ := h
  obtain ⟨v, hv, o2, rfl⟩ := h'
  rw [c.uni hu hv o1 o2]
/-- each later departure comes later -/
theorem Clk.mono (c : Clk day l) {m m' y y' : Int} (h : Dep day l m y) (h' : Dep day l m' y') (lt : m < m') : y < y' := by
  obtain ⟨u, hu, o1, rfl⟩ := h
  obtain ⟨v, hv, o2, rfl⟩ := h'
  have hd : 0 < day := c.pos (List.ne_nil_of_mem hu)
  have e1 := Int.emod_add_mul_ediv m day
  have e2 := Int.emod_add_mul_ediv m' day
  have gu := c.good u hu
  have gv := c.good v hv
  rcases Int.lt_trichotomy (m / day) (m' / day) with k | k | k
  · -- another day
    have k1 : day * (m / day) + day ≤ day * (m' / day) := by
      have := Int.mul_le_mul_of_nonneg_left (show m / day + 1 ≤ m' / day by omega) (show 0 ≤ day by omega)
      rw [Int.mul_add, Int.mul_one] at this
      exact this
    cases l with
    | nil => cases hu
    | cons f l =>
      have w1 := c.wrap u hu
      rcases c.first v hv with rfl | b
      · omega
      · have := b.2
        have := b.1
        have gf := c.good f List.mem_cons_self
        obtain ⟨_, _, _, _⟩ := gf
        omega
  · rw [k] at e1
    rcases pair_or c.pair u hu v hv with h | h | h
    · rw [h]; omega
    · have := h.2; have := h.1; omega
    · have := h.1; omega
  · have k1 : day * (m' / day) + day ≤ day * (m / day) := by
      have := Int.mul_le_mul_of_nonneg_left (show m' / day + 1 ≤ m / day by omega) (show 0 ≤ day by omega)
      rw [Int.mul_add, Int.mul_one] at this
      exact this
    have r0 := Int.emod_lt_of_pos m' hd
    have r1 := Int.emod_nonneg m (show day ≠ 0 by omega)
    omega
theorem dep_shift (k : Int) {m y : Int} (h : Dep day l m y) : Dep day l (m + day * k) (y + day * k) := by
  obtain ⟨w, hw, o, rfl⟩ := h
  exact ⟨w, hw, by rw [Int.add_mul_emod_self_left]; exact o, by omega⟩
theorem dep_le (c : Clk day l) {m y : Int} (h : Dep day l m y) : m ≤ y := by
  obtain ⟨w, hw, o, rfl⟩ := h
  have := (c.good w hw).2.2.2
  omega
/-- x is the first departure from t on, and comes at y -/
structure First (day : Int) (l : List Win) (t x y : Int) : Prop where
  dep : Dep day l x y
  ge : t ≤ x
  least : ∀ m z, Dep day l m z → t ≤ m → x ≤ m
theorem First.uni (c : Clk day l) {t x y x' y' : Int} (h : First day l t x y) (h' : First day l t x' y') : x = x' ∧ y = y' := by
  have a := h.least _ _ h'.dep h'.ge
  have b := h'.least _ _ h.dep h.ge
  have e : x = x' := by omega
  subst e
  exact ⟨rfl, c.fun_ h.dep h'.dep⟩
theorem nextOpen_dep (c : Clk day l) {w : Win} (hw : w ∈ l) (t : Int) : Dep day l (nextOpen day w.1 w.2.1 t) (nextOpen day w.1 w.2.1 t + w.2.2) := by
  obtain ⟨a, b, d, _⟩ := c.good w hw
  exact ⟨w, hw, (nextOpen_spec a b d).2.2.1, rfl⟩
/-- the least of the next openings is the first departure -/
theorem first_of (c : Clk day l) {t : Int} {w : Win} (hw : w ∈ l) (hl : ∀ v ∈ l, nextOpen day w.1 w.2.1 t ≤ nextOpen day v.1 v.2.1 t) : First day l t (nextOpen day w.1 w.2.1 t) (nextOpen day w.1 w.2.1 t + w.2.2) := by
  obtain ⟨a, b, d, _⟩ := c.good w hw
  refine ⟨nextOpen_dep c hw t, (nextOpen_spec a b d).1, fun m z hm ht => ?_⟩
  obtain ⟨v, hv, o, _⟩ := hm
  obtain ⟨a', b', d', _⟩ := c.good v hv
  have s := nextOpen_spec (t := t) a' b' d'
  have := hl v hv
  rcases (by omega : m < nextOpen day v.1 v.2.1 t ∨ nextOpen day v.1 v.2.1 t ≤ m) with q | q
  · exact absurd o (s.2.2.2 m ht q)
  · omega
theorem setOff_first (c : Clk day l) {t x y : Int} (h : setOff day l t = some (x, y)) : First day l t x y := by
  cases l with
  | nil => cases h
  | cons f l =>
    have hd : 0 < day := c.pos (by simp)
    have r0 := Int.emod_nonneg t (show day ≠ 0 by omega)
    have r1 := Int.emod_lt_of_pos t hd
    rw [setOff_cons] at h
    cases e : (f :: l).find? (fun w => decide (t % day ≤ w.2.1)) with
    | some w =>
      rw [e] at h
      cases h
      have hw := List.mem_of_find?_eq_some e
      have hb : t % day ≤ w.2.1 := of_decide_eq_true (List.find?_some (p := fun w : Win => decide (t % day ≤ w.2.1)) e)
      obtain ⟨a, b, d, _⟩ := c.good w hw
      have en : t + max (w.1 - t % day) 0 = nextOpen day w.1 w.2.1 t := by
        unfold nextOpen
        split
        · omega
        · rw [if_neg (by omega)]; omega
      rw [en]
      refine first_of c hw fun v hv => ?_
      obtain ⟨a', b', d', _⟩ := c.good v hv
      obtain ⟨_, as, bs, el, hn⟩ := List.find?_eq_some_iff_append.mp e
      have hv' := hv
      rw [el] at hv'
      rcases List.mem_append.mp hv' with q | q
      · have := hn v q
        have : ¬ (t % day ≤ v.2.1) := by simpa using this
        rw [← en]
        unfold nextOpen
        rw [if_neg (by omega), if_pos (by omega)]
        omega
      · rcases List.mem_cons.mp q with rfl | q
        · omega
        · have p := c.pair
          rw [el] at p
          have p := (List.pairwise_append.mp p).2.1
          cases p with
          | cons p1 p2 =>
            have := (p1 v q).1
            rw [← en]
            unfold nextOpen
            split
            · omega
            · omega
    | none =>
      rw [e] at h
      cases h
      have hn : ∀ v ∈ f :: l, ¬ t % day ≤ v.2.1 := fun v hv => by
        have := List.find?_eq_none.mp e v hv
        simpa using this
      have hf : f ∈ f :: l := List.mem_cons_self
      obtain ⟨a, b, d, _⟩ := c.good f hf
      have en : t - t % day + day + f.1 = nextOpen day f.1 f.2.1 t := by
        have := hn f hf
        unfold nextOpen
        rw [if_neg (by omega), if_pos (by omega)]
        omega
      rw [en]
      refine first_of c hf fun v hv => ?_
      obtain ⟨a', b', d', _⟩ := c.good v hv
      have := hn v hv
      rw [← en]
      have : f.1 ≤ v.1 := by
        rcases c.first v hv with rfl | q
        · omega
        · have := q.1; omega
      unfold nextOpen
      rw [if_neg (by omega), if_pos (by omega)]
      omega
theorem setOff_some {t : Int} (h : l ≠ []) : ∃ x y, setOff day l t = some (x, y) := by
  cases e : setOff day l t with
  | none => exact absurd (setOff_none e) h
  | some p => exact ⟨p.1, p.2, rfl⟩
/-- leave: the latest departure that comes by s -/
structure Latest (day : Int) (l : List Win) (s x : Int) : Prop where
  dep : ∃ y, Dep day l x y ∧ y ≤ s
  most : ∀ m z, Dep day l m z → z ≤ s → m ≤ x
theorem leave_latest (c : Clk day l) {s x : Int} (h : IsLeave day l s x) : Latest day l s x := by
  obtain ⟨⟨w, hw, rfl⟩, hm⟩ := h
  obtain ⟨a, b, d, _⟩ := c.good w hw
  have sp := lastOpen_spec (t := s - w.2.2) a b d
  refine ⟨⟨_, ⟨w, hw, sp.2.2.1, rfl⟩, by omega⟩, fun m z hm' hz => ?_⟩
  obtain ⟨v, hv, o, rfl⟩ := hm'
  obtain ⟨a', b', d', _⟩ := c.good v hv
  have sv := lastOpen_spec (t := s - v.2.2) a' b' d'
  have := hm v hv
  rcases (by omega : lastOpen day v.1 v.2.1 (s - v.2.2) < m ∨ m ≤ lastOpen day v.1 v.2.1 (s - v.2.2)) with q | q
  · exact absurd o (sv.2.2.2 m (by omega) q)
  · omega
theorem First.shift {t x y : Int} (k : Int) (h : First day l t x y) : First day l (t + day * k) (x + day * k) (y + day * k) := by
  refine ⟨dep_shift k h.dep, by have := h.ge; omega, fun m z hm ht => ?_⟩
  have d := dep_shift (-k) hm
  have e : day * -k = -(day * k) := by rw [Int.mul_neg]
  rw [e] at d
  have := h.least _ _ d (by omega)
  omega
theorem First.mono (c : Clk day l) {t u x y x' y' : Int} (h : First day l t x y) (h' : First day l u x' y') (le : t ≤ u) : y ≤ y' := by
  have a := h.least _ _ h'.dep (by have := h'.ge; omega)
  rcases (by omega : x < x' ∨ x = x') with q | q
  · have := c.mono h.dep h'.dep q; omega
  · subst q
    rw [c.fun_ h.dep h'.dep]
    exact Int.le_refl _
theorem Latest.uni {s x x' : Int} (h : Latest day l s x) (h' : Latest day l s x') : x = x' := by
  obtain ⟨y, d, hy⟩ := h.dep
  obtain ⟨y', d', hy'⟩ := h'.dep
  have a := h.most _ _ d' hy'
  have b := h'.most _ _ d hy
  omega
theorem Latest.shift {s x : Int} (k : Int) (h : Latest day l s x) : Latest day l (s + day * k) (x + day * k) := by
  obtain ⟨y, d, hy⟩ := h.dep
  refine ⟨⟨_, dep_shift k d, by omega⟩, fun m z hm hz => ?_⟩
  have d := dep_shift (-k) hm
  have e : day * -k = -(day * k) := by rw [Int.mul_neg]
  rw [e] at d
  have := h.most _ _ d (by omega)
  omega
theorem Latest.mono {s s' x x' : Int} (h : Latest day l s x) (h' : Latest day l s' x') (le : s ≤ s') : x ≤ x' := by
  obtain ⟨y, d, hy⟩ := h.dep
  exact h'.most _ _ d (by omega)
theorem Latest.le (c : Clk day l) {s x : Int} (h : Latest day l s x) : x ≤ s := by
  obtain ⟨y, d, hy⟩ := h.dep
  have := dep_le c d
  omega
/-- coming by s is setting off no later than leave tells -/
theorem come_leave (c : Clk day l) {t x y s z : Int} (f : First day l t x y) (g : Latest day l s z) : y ≤ s ↔ t ≤ z := by
  constructor
  · intro h
    have := g.most _ _ f.dep h
    have := f.ge
    omega
  · intro h
    obtain ⟨y', d, hy⟩ := g.dep
    have := f.least _ _ d h
    rcases (by omega : x < z ∨ z ≤ x) with q | q
    · have := c.mono f.dep d q; omega
    · have e : x = z := by omega
      subst e
      rw [c.fun_ f.dep d]; exact hy
end
theorem nextOpen_alt {day a b t : Int} (h0 : 0 ≤ a) (h1 : a ≤ b) (h2 : b < day) : (if b - a < (t - a) % day then t + (a - t) % day else t) = nextOpen day a b t := by
  have o := open_iff (t := t) h0 h1 h2
  have e := Int.emod_add_mul_ediv t day
  have r0 := Int.emod_nonneg t (show day ≠ 0 by omega)
  have r1 := Int.emod_lt_of_pos t (show 0 < day by omega)
  unfold nextOpen
  split
  · rename_i q
    split
    · rename_i c
      have : (a - t) % day = a - t % day := mod_at (k := -(t / day)) (by omega) (by omega) (by rw [Int.mul_neg]; omega)
      omega
    · rename_i c
      have c2 : t % day > b := by
        have : ¬ (a ≤ t % day ∧ t % day ≤ b) := fun z => by have := o.mpr z; omega
        omega
      rw [if_pos c2]
      have : (a - t) % day = a - t % day + day := mod_at (k := -(t / day) - 1) (by omega) (by omega) (by rw [Int.mul_sub, Int.mul_neg]; omega)
      omega
  · rename_i q
    have := o.mp (by omega)
    rw [if_neg (by omega), if_neg (by omega)]
/-- rows that fit their day are a clock -/
theorem leastDay_eq {l : List Win} (h : 0 < l.length) : leastDay l = max ((l[l.length - 1]'(by omega)).2.1 + 1) ((l[l.length - 1]'(by omega)).2.1 + (l[l.length - 1]'(by omega)).2.2 - l[0].1 - l[0].2.2 + 1) := by
  cases l with
  | nil => simp at h
  | cons f l =>
    show max (((f :: l).getLastD f).2.1 + 1) _ = _
    rw [getLastD_at h]
    rfl
theorem rows_clk {lift day : Int} {rows : List Win} (r : RowsOk lift rows) (hl : 0 ≤ lift) (h : leastDay rows ≤ day) : Clk day rows := by
  cases rows with
  | nil => exact ⟨(fun w hw => by cases hw), rfl⟩
  | cons f l =>
    have g : ∀ w ∈ f :: l, w.1 ≤ w.2.1 := fun w hw => (r.ok w hw).2.1
    have p := chn_pair g r.chn
    have h1 : max (((f :: l).getLastD f).2.1 + 1) (((f :: l).getLastD f).2.1 + ((f :: l).getLastD f).2.2 - f.1 - f.2.2 + 1) ≤ day := h
    have p2 : (f :: l).Pairwise (fun u v => u.2.1 ≤ v.2.1) := by
      refine List.Pairwise.imp_of_mem (fun {a b} ha hb h => ?_) p
      have := h.1
      have := g b hb
      omega
    refine ⟨fun w hw => ?_, ?_⟩
    · obtain ⟨a, b, c, d, e⟩ := r.ok w hw
      have := last_max (P := fun u v => u.2.1 ≤ v.2.1) (fun w => by omega) p2 w hw
      exact ⟨a, b, by omega, by omega⟩
    · show (chn (f :: l) && decide _) = true
      rw [r.chn, Bool.true_and]
      exact decide_eq_true (by omega)
theorem leastDay_le {lift : Int} {rows : List Win} (r : RowsOk lift rows) (hl : 0 ≤ lift) : 1 ≤ leastDay rows ∧ leastDay rows ≤ 10 ^ 16 := by
  cases rows with
  | nil => exact ⟨by show (1 : Int) ≤ 1; omega, by show (1 : Int) ≤ _; omega⟩
  | cons f l =>
    have hm : (f :: l).getLastD f ∈ f :: l := by
      rw [List.getLastD_eq_getLast?]
      cases q : (f :: l).getLast? with
      | none => simp at q
      | some z => exact List.mem_of_getLast? q
    obtain ⟨a, b, c, d, e⟩ := r.ok _ hm
    obtain ⟨a', b', c', d', e'⟩ := r.ok f List.mem_cons_self
    have e1 : leastDay (f :: l) = max (((f :: l).getLastD f).2.1 + 1) (((f :: l).getLastD f).2.1 + ((f :: l).getLastD f).2.2 - f.1 - f.2.2 + 1) := rfl
    rw [e1]
    exact ⟨by omega, by omega⟩
end PL
namespace PL
open PySem PySem.Spec L2
/-! ### stretches -/
structure Part where
  p : Int
  q : Int
  s : Bool
  v : Int
def pd (x : Part) : PyData := .tuple [.int x.p, .int x.q, .bool x.s, .int x.v]
theorem flats_pd : ∀ l : List Part, flats (l.map pd) = true
  | [] => rfl
  | _ :: l => flats_pd l
theorem lay_pd : ∀ l : List Part, PyData.canLayAll0 (l.map pd) = true
  | [] => rfl
  | w :: l => by
    rw [List.map_cons, PyData.canLayAll0, lay_pd l, Bool.and_true]
    simp [pd, PyData.canLay0, PyData.canLayAll0]
theorem depth_pd : ∀ l : List Part, PyData.depthAll (l.map pd) ≤ 2
  | [] => by simp [PyData.depthAll]
  | w :: l => by
    have := depth_pd l
    rw [List.map_cons, PyData.depthAll]
    simp [pd, PyData.depth, PyData.depthAll]
    omega
theorem shaped_lpd (l : List Part) : SeqAt.shaped (.list (l.map pd)) = true := by
  have h1 := lay_pd l
  have h2 := depth_pd l
  unfold SeqAt.shaped
  rw [PyData.canLay0, h1, Bool.true_and]
  refine decide_eq_true ?_
  rw [PyData.depth]
  omega
theorem eqv_pd (a : Part) : PyData.eqv (pd a) (pd a) = true := by simp [pd, PyData.eqv, PyData.eqvAll]
theorem eqvAll_pd : ∀ l : List Part, PyData.eqvAll (l.map pd) (l.map pd) = true
  | [] => by simp [PyData.eqvAll]
  | v :: l => by rw [List.map_cons, PyData.eqvAll, eqv_pd, eqvAll_pd l]; rfl
theorem eqv_lpd (l : List Part) : PyData.eqv (.list (l.map pd)) (.list (l.map pd)) = true := by rw [PyData.eqv, eqvAll_pd]
theorem pd_inj : ∀ {a b : List Part}, a.map pd = b.map pd → a = b
  | [], [], _ => rfl
  | [], _ :: _, h => by cases h
  | _ :: _, [], h => by cases h
  | ⟨p, q, s, v⟩ :: a, ⟨p', q', s', v'⟩ :: b, h => by
    rw [List.map_cons, List.map_cons] at h
    injection h with h1 h2
    cases h1
    rw [pd_inj h2]
def AllPd (ds : List PyData) : Prop := ∃ l : List Part, ds = l.map pd
theorem allPd_map (l : List Part) : AllPd (l.map pd) = True := eq_true ⟨l, rfl⟩
theorem forP_part {i j m n : Nat} {b : PSs} {κ : KS} {t : Tg κ} {ρ : Rho} {k : Kd} {w : Part} {r : List Sl}
    (h : wSs b { κ with nx := forP (.tp (.cons (.nm i) (.cons (.nm j) (.cons (.nm m) (.cons (.nm n) .nil))))) b κ t r, ct := forP (.tp (.cons (.nm i) (.cons (.nm j) (.cons (.nm m) (.cons (.nm n) .nil))))) b κ t r, bk := κ.nx }
      ((((ρ.set i (some (.un, .int w.p))).set j (some (.un, .int w.q))).set m (some (.un, .bool w.s))).set n (some (.un, .int w.v)))) :
    forP (.tp (.cons (.nm i) (.cons (.nm j) (.cons (.nm m) (.cons (.nm n) .nil))))) b κ t ((k, pd w) :: r) ρ := ⟨rfl, rfl, rfl, rfl, h⟩
/-! the parts ahead of and at each window, from a moment on -/
def strGo : List Win → Int → List Part
  | [], _ => []
  | w :: r, t => (if t < w.1 then [⟨t, w.1 - 1, true, w.1 + w.2.2⟩] else []) ++ ⟨w.1, w.2.1, false, w.2.2⟩ :: strGo r (w.2.1 + 1)
def endAt : List Win → Int → Int
  | [], t => t
  | w :: r, _ => endAt r (w.2.1 + 1)
def strx (day : Int) (l : List Win) : List Part := match l with
  | [] => []
  | f :: r => strGo (f :: r) 0 ++ if endAt (f :: r) 0 < day then [⟨endAt (f :: r) 0, day - 1, true, day + f.1 + f.2.2⟩] else []
theorem strGo_len : ∀ (l : List Win) (t : Int), (strGo l t).length ≤ 2 * l.length
  | [], _ => Nat.le_refl _
  | w :: r, t => by
    have := strGo_len r (w.2.1 + 1)
    unfold strGo
    rw [List.length_append, List.length_cons, List.length_cons]
    split
    · rw [List.length_singleton]; omega
    · rw [List.length_nil]; omega
theorem strx_len (day : Int) (l : List Win) : (strx day l).length ≤ 2 * l.length + 1 := by
  cases l with
  | nil => exact Nat.zero_le _
  | cons f r =>
    have := strGo_len (f :: r) 0
    unfold strx
    rw [List.length_append]
    split
    · rw [List.length_singleton]; omega
    · rw [List.length_nil]; omega
/-- the least coming of all windows -/
def MinCome (day : Int) (l : List Win) (t y : Int) : Prop := (∃ w ∈ l, y = nextOpen day w.1 w.2.1 t + w.2.2) ∧ ∀ v ∈ l, y ≤ nextOpen day v.1 v.2.1 t + v.2.2
theorem min_first {day : Int} {l : List Win} (c : Clk day l) {t x y z : Int} (f : First day l t x y) (m : MinCome day l t z) : z = y := by
  obtain ⟨⟨w, hw, rfl⟩, hm⟩ := m
  have d := nextOpen_dep c hw t
  obtain ⟨a, b, e, _⟩ := c.good w hw
  have le := f.least _ _ d (nextOpen_spec a b e).1
  have h1 : y ≤ nextOpen day w.1 w.2.1 t + w.2.2 := by
    rcases (by omega : x < nextOpen day w.1 w.2.1 t ∨ x = nextOpen day w.1 w.2.1 t) with q | q
    · have := c.mono f.dep d q; omega
    · subst q; rw [c.fun_ f.dep d]; exact Int.le_refl _
  obtain ⟨v, hv, o, e2⟩ := f.dep
  obtain ⟨a', b', e', _⟩ := c.good v hv
  have s := nextOpen_spec (t := t) a' b' e'
  have h2 : nextOpen day v.1 v.2.1 t ≤ x := by
    rcases (by omega : x < nextOpen day v.1 v.2.1 t ∨ nextOpen day v.1 v.2.1 t ≤ x) with q | q
    · exact absurd o (s.2.2.2 x f.ge q)
    · exact q
  have := hm v hv
  omega
/-- at x no window is open and w is the next one of the day -/
theorem first_gap {day : Int} {l0 l1 : List Win} {w : Win} (c : Clk day (l0 ++ w :: l1)) {x : Int} (h0 : 0 ≤ x) (h1 : x < w.1) (h2 : ∀ v ∈ l0, v.2.1 < x) : First day (l0 ++ w :: l1) x w.1 (w.1 + w.2.2) := by
  have hw : w ∈ l0 ++ w :: l1 := List.mem_append_right _ List.mem_cons_self
  obtain ⟨a, b, d, _⟩ := c.good w hw
  have xm : x % day = x := Int.emod_eq_of_lt h0 (by omega)
  have en : ∀ v ∈ l0 ++ w :: l1, nextOpen day v.1 v.2.1 x = if x < v.1 then v.1 else if v.2.1 < x then day + v.1 else x := fun v hv => by
    unfold nextOpen
    rw [xm]
    split
    · omega
    · split <;> omega
  have e0 := en w hw
  rw [if_pos h1] at e0
  have f := first_of c (t := x) hw fun v hv => by
    rw [e0, en v hv]
    rcases List.mem_append.mp hv with q | q
    · have := h2 v q
      obtain ⟨a', b', d', _⟩ := c.good v hv
      rw [if_neg (by omega), if_pos this]
      omega
    · rcases List.mem_cons.mp q with rfl | q
      · rw [if_pos h1]; exact Int.le_refl _
      · have p := (List.pairwise_append.mp c.pair).2.1
        cases p with
        | cons p1 p2 =>
          have := (p1 v q).1
          rw [if_pos (by omega)]
          omega
  rw [e0] at f
  exact f
theorem first_wrap {day : Int} {f : Win} {l : List Win} (c : Clk day (f :: l)) {x : Int} (h0 : 0 ≤ x) (h1 : x < day) (h2 : ∀ v ∈ f :: l, v.2.1 < x) : First day (f :: l) x (day + f.1) (day + f.1 + f.2.2) := by
  have hf : f ∈ f :: l := List.mem_cons_self
  have xm : x % day = x := Int.emod_eq_of_lt h0 h1
  have en : ∀ v ∈ f :: l, nextOpen day v.1 v.2.1 x = day + v.1 := fun v hv => by
    obtain ⟨a', b', d', _⟩ := c.good v hv
    have := h2 v hv
    unfold nextOpen
    rw [xm, if_neg (by omega), if_pos (by omega)]
    omega
  have g := first_of c (t := x) hf fun v hv => by
    rw [en f hf, en v hv]
    rcases c.first v hv with rfl | b
    · exact Int.le_refl _
    · have := b.1
      have := (c.good f hf).2.1
      omega
  rw [en f hf] at g
  exact g
/-- what the law asks of the parts, in order -/
def Told (day : Int) (rows : List Win) : Int → Bool → List Part → Prop
  | t, _, [] => t = day
  | t, calm, x :: r => x.p = t ∧ x.p ≤ x.q ∧ ¬ (calm = true ∧ x.s = true) ∧ (x.s = true → ∀ m y, x.p ≤ m → m ≤ x.q → MinCome day rows m y → y = x.v) ∧ Told day rows (x.q + 1) x.s r
theorem endAt_ge {day : Int} : ∀ {l : List Win} {t : Int}, (∀ w ∈ l, Good day w) → t ≤ day → endAt l t ≤ day
  | [], t, _, h => h
  | w :: l, t, g, _ => by
    obtain ⟨a, b, c, d⟩ := g w List.mem_cons_self
    show endAt l (w.2.1 + 1) ≤ day
    exact endAt_ge (fun v hv => g v (List.mem_cons_of_mem _ hv)) (by omega)
theorem endAt_all : ∀ {l : List Win} {t : Int}, l.Pairwise Bef → (∀ w ∈ l, w.1 ≤ w.2.1) → ∀ v ∈ l, v.2.1 < endAt l t
  | [], _, _, _, v, hv => by cases hv
  | [w], t, _, _, v, hv => by
    rw [List.mem_singleton.mp hv]
    show w.2.1 < w.2.1 + 1
    omega
  | w :: u :: l, t, p, g, v, hv => by
    cases p with
    | cons p1 p2 =>
      have ih := endAt_all (t := w.2.1 + 1) p2 (fun x hx => g x (List.mem_cons_of_mem _ hx))
      show v.2.1 < endAt (u :: l) (w.2.1 + 1)
      rcases List.mem_cons.mp hv with rfl | hv
      · have := ih u List.mem_cons_self
        have := (p1 u List.mem_cons_self).1
        have := g u (List.mem_cons_of_mem _ List.mem_cons_self)
        omega
      · exact ih v hv
theorem told_go {day : Int} {rows : List Win} (c : Clk day rows) (tail : List Part) : ∀ (l1 l0 : List Win) (t : Int), rows = l0 ++ l1 → 0 ≤ t → (∀ v ∈ l0, v.2.1 < t) → (∀ v ∈ l1, t ≤ v.1) → Told day rows (endAt l1 t) false tail → Told day rows t false (strGo l1 t ++ tail)
  | [], l0, t, e, _, _, _, h => h
  | w :: l1, l0, t, e, h0, h2, h3, h => by
    have hw : w ∈ rows := by rw [e]; exact List.mem_append_right _ List.mem_cons_self
    obtain ⟨a, b, d, _⟩ := c.good w hw
    have p := c.pair
    rw [e] at p
    have p := (List.pairwise_append.mp p).2.1
    have p1 : ∀ v ∈ l1, Bef w v := by cases p with | cons p1 p2 => exact p1
    have ih := told_go c tail l1 (l0 ++ [w]) (w.2.1 + 1) (by rw [e, List.append_assoc]; rfl) (by omega) (fun v hv => by
      rcases List.mem_append.mp hv with q | q
      · have := h2 v q; have := h3 w List.mem_cons_self; omega
      · rw [List.mem_singleton.mp q]; omega) (fun v hv => by have := (p1 v hv).1; omega) h
    have hwt := h3 w List.mem_cons_self
    unfold strGo
    by_cases q : t < w.1
    · rw [if_pos q]
      refine ⟨rfl, (by show t ≤ w.1 - 1; omega), (fun z => by cases z.1), fun _ m y hm1 hm2 hy => ?_, (by show w.1 = w.1 - 1 + 1; omega), b, (fun z => by cases z.2), (fun z => by cases z), ih⟩
      have hm1 : t ≤ m := hm1
      have hm2 : m ≤ w.1 - 1 := hm2
      have c' := c
      rw [e] at c' hy
      have f := first_gap c' (x := m) (by omega) (by omega) (fun v hv => by have := h2 v hv; omega)
      exact min_first c' f hy
    · rw [if_neg q]
      exact ⟨(by show w.1 = t; omega), b, (fun z => by cases z.2), (fun z => by cases z), ih⟩
theorem told_strs {day : Int} {rows : List Win} (c : Clk day rows) (hn : rows ≠ []) : Told day rows 0 false (strx day rows) := by
  cases rows with
  | nil => exact absurd rfl hn
  | cons f l =>
    have g : ∀ w ∈ f :: l, w.1 ≤ w.2.1 := fun w hw => (c.good w hw).2.1
    have en := endAt_all (t := 0) c.pair g
    have hd := c.pos hn
    have ge := endAt_ge (t := 0) c.good (by omega)
    refine told_go c _ (f :: l) [] 0 rfl (Int.le_refl _) (fun v hv => by cases hv) (fun v hv => (c.good v hv).1) ?_
    have f0 := en f List.mem_cons_self
    have gf := c.good f List.mem_cons_self
    obtain ⟨_, _, _, _⟩ := gf
    by_cases q : endAt (f :: l) 0 < day
    · rw [if_pos q]
      refine ⟨rfl, (by show endAt (f :: l) 0 ≤ day - 1; omega), (fun z => by cases z.1), fun _ m y hm1 hm2 hy => ?_, (by show day - 1 + 1 = day; omega)⟩
      have hm1 : endAt (f :: l) 0 ≤ m := hm1
      have hm2 : m ≤ day - 1 := hm2
      exact min_first c (first_wrap c (x := m) (by omega) (by omega) fun v hv => by have := en v hv; omega) hy
    · rw [if_neg q]
      show endAt (f :: l) 0 = day
      omega
/-- the parts that go are the windows -/
theorem go_wins : ∀ (l : List Win) (t : Int), (strGo l t).filterMap (fun x => if x.s = true then none else some ((x.p, x.q, x.v) : Win)) = l
  | [], _ => rfl
  | w :: l, t => by
    unfold strGo
    rw [List.filterMap_append, List.filterMap_cons, go_wins l (w.2.1 + 1)]
    split <;> rfl
theorem strx_wins (day : Int) (l : List Win) : (strx day l).filterMap (fun x => if x.s = true then none else some ((x.p, x.q, x.v) : Win)) = l := by
  cases l with
  | nil => rfl
  | cons f r =>
    unfold strx
    rw [List.filterMap_append, go_wins]
    split <;> simp
end PL
namespace PL
open PySem PySem.Spec L2
/-! ### what is told for each moment, and the clock that tells it -/
def val (x : Part) (m : Int) : Int := if x.s = true then x.v else m + x.v
structure FOk (day : Int) (F : Int → Int) : Prop where
  pos : 0 < day
  mono : ∀ x y, x ≤ y → F x ≤ F y
  ge : ∀ x, x ≤ F x
  per : ∀ x, F (x + day) = F x + day
theorem FOk.perN {day : Int} {F : Int → Int} (f : FOk day F) (x : Int) : ∀ n : Nat, F (x + day * n) = F x + day * n
  | 0 => by simp
  | n + 1 => by
    have e : x + day * ((n + 1 : Nat) : Int) = (x + day * n) + day := by
      rw [show ((n + 1 : Nat) : Int) = (n : Int) + 1 by omega, Int.mul_add, Int.mul_one]; omega
    rw [e, f.per, f.perN x n, show ((n + 1 : Nat) : Int) = (n : Int) + 1 by omega, Int.mul_add, Int.mul_one]
    omega
theorem FOk.perZ {day : Int} {F : Int → Int} (f : FOk day F) (x k : Int) : F (x + day * k) = F x + day * k := by
  rcases Int.le_total 0 k with h | h
  · have e : k = (k.toNat : Int) := by omega
    rw [e]; exact f.perN x _
  · have e : k = -((-k).toNat : Int) := by omega
    have q := f.perN (x + day * k) (-k).toNat
    have e2 : x + day * k + day * ((-k).toNat : Int) = x := by
      rw [show (((-k).toNat : Nat) : Int) = -k by omega, Int.mul_neg]; omega
    rw [e2] at q
    rw [show (((-k).toNat : Nat) : Int) = -k by omega, Int.mul_neg] at q
    omega
/-- without a departure between nothing changes -/
theorem flat_to {F : Int → Int} {x : Int} : ∀ n : Nat, (∀ m, x ≤ m → m < x + n → ¬ F m < F (m + 1)) → (∀ a b, a ≤ b → F a ≤ F b) → F (x + n) = F x
  | 0, _, _ => by simp
  | n + 1, h, mo => by
    have ih := flat_to (F := F) (x := x) n (fun m h1 h2 => h m h1 (by omega)) mo
    have q := h (x + n) (by omega) (by omega)
    have m := mo (x + n) (x + n + 1) (by omega)
    rw [show x + ((n + 1 : Nat) : Int) = x + n + 1 by omega]
    omega
theorem flat_eq {F : Int → Int} {x y : Int} (le : x ≤ y) (h : ∀ m, x ≤ m → m < y → ¬ F m < F (m + 1)) (mo : ∀ a b, a ≤ b → F a ≤ F b) : F y = F x := by
  have := flat_to (F := F) (x := x) (y - x).toNat (fun m h1 h2 => h m h1 (by omega)) mo
  rw [show x + ((y - x).toNat : Int) = y by omega] at this
  exact this
/-- rows that hold each departure of a day -/
structure Rows (day : Int) (F : Int → Int) (W : List Win) : Prop where
  ok : ∀ w ∈ W, 0 ≤ w.1 ∧ w.1 ≤ w.2.1 ∧ w.2.1 < day ∧ ∀ m, w.1 ≤ m → m ≤ w.2.1 → F m = m + w.2.2 ∧ F m < F (m + 1)
  all : ∀ m, 0 ≤ m → m < day → F m < F (m + 1) → ∃ w ∈ W, w.1 ≤ m ∧ m ≤ w.2.1
  pair : W.Pairwise fun u v => u.2.1 < v.1
def Adj : List Win → Prop
  | [] => True
  | [_] => True
  | h :: t :: l => ¬ (h.2.1 + 1 = t.1 ∧ h.2.2 = t.2.2) ∧ Adj (t :: l)
structure IsClock (day : Int) (R : List Win) (F : Int → Int) : Prop where
  clk : Clk day R
  ne : R ≠ []
  tell : ∀ t, ∃ x, First day R t x (F t)
section
variable {day : Int} {F : Int → Int} {W : List Win}
theorem rows_dep (f : FOk day F) (r : Rows day F W) {m y : Int} (d : Dep day W m y) : y = F m ∧ F m < F (m + 1) := by
  obtain ⟨w, hw, ⟨o1, o2⟩, rfl⟩ := d
  obtain ⟨_, _, _, h⟩ := r.ok w hw
  obtain ⟨h1, h2⟩ := h _ o1 o2
  have e := Int.emod_add_mul_ediv m day
  have p1 := f.perZ (m % day) (m / day)
  have p2 := f.perZ (m % day + 1) (m / day)
  rw [e] at p1
  rw [show m % day + 1 + day * (m / day) = m + 1 by omega] at p2
  exact ⟨by omega, by omega⟩
theorem dep_rows (f : FOk day F) (r : Rows day F W) {m : Int} (h : F m < F (m + 1)) : Dep day W m (F m) := by
  have e := Int.emod_add_mul_ediv m day
  have r0 := Int.emod_nonneg m (show day ≠ 0 by have := f.pos; omega)
  have r1 := Int.emod_lt_of_pos m f.pos
  have p1 := f.perZ (m % day) (m / day)
  have p2 := f.perZ (m % day + 1) (m / day)
  rw [e] at p1
  rw [show m % day + 1 + day * (m / day) = m + 1 by omega] at p2
  obtain ⟨w, hw, o1, o2⟩ := r.all (m % day) r0 r1 (by omega)
  obtain ⟨_, _, _, h'⟩ := r.ok w hw
  obtain ⟨h1, _⟩ := h' _ o1 o2
  exact ⟨w, hw, ⟨o1, o2⟩, by omega⟩
theorem chn_rows (f : FOk day F) : ∀ {W : List Win}, (∀ w ∈ W, w.1 ≤ w.2.1 ∧ ∀ m, w.1 ≤ m → m ≤ w.2.1 → F m = m + w.2.2 ∧ F m < F (m + 1)) → W.Pairwise (fun u v => u.2.1 < v.1) → Adj W → chn W = true
  | [], _, _, _ => rfl
  | [_], _, _, _ => rfl
  | h :: t :: l, ok, p, a => by
    cases p with
    | cons p1 p2 =>
      have lt := p1 t List.mem_cons_self
      obtain ⟨g1, oh⟩ := ok h List.mem_cons_self
      obtain ⟨g2, ot⟩ := ok t (List.mem_cons_of_mem _ List.mem_cons_self)
      obtain ⟨e1, e2⟩ := oh h.2.1 g1 (Int.le_refl _)
      obtain ⟨e3, _⟩ := ot t.1 (Int.le_refl _) g2
      have mo := f.mono (h.2.1 + 1) t.1 (by omega)
      have ih := chn_rows f (fun w hw => ok w (List.mem_cons_of_mem _ hw)) p2 a.2
      show (fol h t && chn (t :: l)) = true
      rw [ih, Bool.and_true]
      unfold fol
      rw [if_neg (by omega)]
      split
      · rfl
      · rename_i q
        refine decide_eq_true fun z => a.1 ⟨by omega, z⟩
theorem last_mem {f : Win} {l : List Win} : (f :: l).getLastD f ∈ f :: l := by
  rw [List.getLastD_eq_getLast?]
  cases q : (f :: l).getLast? with
  | none => simp at q
  | some z => exact List.mem_of_getLast? q
theorem rows_clock (f : FOk day F) (r : Rows day F W) (a : Adj W) : IsClock day W F := by
  have hne : W ≠ [] := fun z => by
    subst z
    have q := flat_eq (F := F) (x := 0) (y := day) (by have := f.pos; omega) (fun m h1 h2 h3 => by
      obtain ⟨w, hw, _⟩ := r.all m h1 h2 h3
      cases hw) f.mono
    have := f.per 0
    rw [Int.zero_add] at this
    have := f.pos
    omega
  have good : ∀ w ∈ W, Good day w := fun w hw => by
    obtain ⟨x, y, z, h⟩ := r.ok w hw
    have := (h w.1 (Int.le_refl _) y).1
    have := f.ge w.1
    exact ⟨x, y, z, by omega⟩
  have hc : Clk day W := by
    refine ⟨good, ?_⟩
    cases W with
    | nil => exact absurd rfl hne
    | cons g l =>
      have ch := chn_rows f (fun w hw => ⟨(r.ok w hw).2.1, (r.ok w hw).2.2.2⟩) r.pair a
      show (chn (g :: l) && decide _) = true
      rw [ch, Bool.true_and]
      refine decide_eq_true ?_
      obtain ⟨x, y, z, h⟩ := r.ok _ (last_mem (f := g) (l := l))
      obtain ⟨h1, h2⟩ := h _ y (Int.le_refl _)
      obtain ⟨x', y', z', h'⟩ := r.ok g List.mem_cons_self
      obtain ⟨h3, _⟩ := h' g.1 (Int.le_refl _) y'
      have e0 : F g.1 = F 0 := flat_eq x' (fun m m0 m1 hm => by
        obtain ⟨w, hw, o1, o2⟩ := r.all m m0 (by omega) hm
        have p := r.pair
        cases p with
        | cons p1 p2 =>
          rcases List.mem_cons.mp hw with rfl | hw
          · omega
          · have := p1 w hw; omega) f.mono
      have mo := f.mono (((g :: l).getLastD g).2.1 + 1) day (by omega)
      have per := f.per 0
      rw [Int.zero_add] at per
      omega
  refine ⟨hc, hne, fun t => ?_⟩
  obtain ⟨x, y, e⟩ := setOff_some (day := day) (t := t) hne
  have fs := setOff_first hc e
  obtain ⟨ey, _⟩ := rows_dep f r fs.dep
  have fe : F x = F t := flat_eq fs.ge (fun m h1 h2 h3 => by
    have := fs.least m _ (dep_rows f r h3) h1
    omega) f.mono
  refine ⟨x, ?_⟩
  rw [← fe, ← ey]
  exact fs
end
/-! ### put together -/
def joinGo (cur : Win) : List Win → List Win
  | [] => [cur]
  | w :: r => if cur.2.1 + 1 = w.1 ∧ cur.2.2 = w.2.2 then joinGo (cur.1, w.2.1, w.2.2) r else cur :: joinGo w r
def joinW : List Win → List Win
  | [] => []
  | w :: r => joinGo w r
structure Pre (day : Int) (F : Int → Int) (w : Win) : Prop where
  a0 : 0 ≤ w.1
  ab : w.1 ≤ w.2.1
  bd : w.2.1 < day
  ok : ∀ m, w.1 ≤ m → m ≤ w.2.1 → F m = m + w.2.2 ∧ F m < F (m + 1)
theorem joinGo_ok {day : Int} {F : Int → Int} : ∀ (l : List Win) (c : Win), Pre day F c → (∀ w ∈ l, Pre day F w) → (∀ w ∈ l, c.2.1 < w.1) → l.Pairwise (fun u v => u.2.1 < v.1) →
    (∀ w ∈ joinGo c l, Pre day F w ∧ c.1 ≤ w.1) ∧ (joinGo c l).Pairwise (fun u v => u.2.1 < v.1) ∧ Adj (joinGo c l) ∧ (∃ h t, joinGo c l = h :: t ∧ h.1 = c.1 ∧ (h = c ∨ h.2.2 = c.2.2)) ∧ ∀ m, (∃ w ∈ c :: l, w.1 ≤ m ∧ m ≤ w.2.1) → ∃ w ∈ joinGo c l, w.1 ≤ m ∧ m ≤ w.2.1
  | [], c, pc, _, _, _ => ⟨fun w hw => by rw [List.mem_singleton.mp hw]; exact ⟨pc, Int.le_refl _⟩, List.pairwise_singleton _ _, trivial, ⟨c, [], rfl, rfl, .inl rfl⟩, fun m h => h⟩
  | w :: r, c, pc, pl, lt, pw => by
    have pw1 := pl w List.mem_cons_self
    have cw := lt w List.mem_cons_self
    have hr : ∀ x ∈ r, Pre day F x := fun x hx => pl x (List.mem_cons_of_mem _ hx)
    obtain ⟨q1, q2⟩ := List.pairwise_cons.mp pw
    by_cases e : c.2.1 + 1 = w.1 ∧ c.2.2 = w.2.2
    · have eq : joinGo c (w :: r) = joinGo (c.1, w.2.1, w.2.2) r := by unfold joinGo; rw [if_pos e]; cases r <;> rfl
      have pn : Pre day F (c.1, w.2.1, w.2.2) := ⟨pc.a0, by show c.1 ≤ w.2.1; have := pc.ab; have := pw1.ab; omega, pw1.bd, fun m h1 h2 => by
        have h1 : c.1 ≤ m := h1
        have h2 : m ≤ w.2.1 := h2
        show F m = m + w.2.2 ∧ _
        rcases (by omega : m ≤ c.2.1 ∨ w.1 ≤ m) with z | z
        · rw [← e.2]; exact pc.ok m h1 z
        · exact pw1.ok m z h2⟩
      obtain ⟨i1, i2, i3, ⟨h, t, i4, i5, i6⟩, i7⟩ := joinGo_ok r (c.1, w.2.1, w.2.2) pn hr q1 q2
      rw [eq]
      refine ⟨i1, i2, i3, ⟨h, t, i4, i5, .inr ?_⟩, fun m hm => ?_⟩
      · rcases i6 with z | z
        · rw [z]; exact e.2.symm
        · rw [z]; exact e.2.symm
      · refine i7 m ?_
        obtain ⟨x, hx, m1, m2⟩ := hm
        rcases List.mem_cons.mp hx with rfl | hx
        · exact ⟨_, List.mem_cons_self, m1, by show m ≤ w.2.1; have := pw1.ab; omega⟩
        · rcases List.mem_cons.mp hx with rfl | hx
          · exact ⟨_, List.mem_cons_self, by show c.1 ≤ m; have := pc.ab; omega, m2⟩
          · exact ⟨x, List.mem_cons_of_mem _ hx, m1, m2⟩
    · have eq : joinGo c (w :: r) = c :: joinGo w r := by rw [joinGo, if_neg e]
      obtain ⟨i1, i2, i3, ⟨h, t, i4, i5, i6⟩, i7⟩ := joinGo_ok r w pw1 hr q1 q2
      rw [eq]
      refine ⟨fun x hx => ?_, List.pairwise_cons.mpr ⟨fun x hx => by have := (i1 x hx).2; omega, i2⟩, ?_, ⟨c, _, rfl, rfl, .inl rfl⟩, fun m hm => ?_⟩
      · rcases List.mem_cons.mp hx with rfl | hx
        · exact ⟨pc, Int.le_refl _⟩
        · exact ⟨(i1 x hx).1, by have := (i1 x hx).2; have := pc.ab; omega⟩
      · rw [i4] at i3 ⊢
        refine ⟨fun z => e ⟨by omega, ?_⟩, i3⟩
        rcases i6 with y | y
        · rw [y] at z; exact z.2
        · rw [y] at z; exact z.2
      · obtain ⟨x, hx, m1, m2⟩ := hm
        rcases List.mem_cons.mp hx with rfl | hx
        · exact ⟨x, List.mem_cons_self, m1, m2⟩
        · obtain ⟨y, hy, y1, y2⟩ := i7 m ⟨x, hx, m1, m2⟩
          exact ⟨y, List.mem_cons_of_mem _ hy, y1, y2⟩
theorem join_clock {day : Int} {F : Int → Int} {W : List Win} (f : FOk day F) (r : Rows day F W) : IsClock day (joinW W) F := by
  cases W with
  | nil => exact rows_clock f r trivial
  | cons c l =>
    have pre : ∀ w ∈ c :: l, Pre day F w := fun w hw => by
      obtain ⟨a, b, d, h⟩ := r.ok w hw
      exact ⟨a, b, d, h⟩
    obtain ⟨q1, q2⟩ := List.pairwise_cons.mp r.pair
    obtain ⟨i1, i2, i3, _, i7⟩ := joinGo_ok l c (pre c List.mem_cons_self) (fun w hw => pre w (List.mem_cons_of_mem _ hw)) q1 q2
    exact rows_clock f ⟨fun w hw => ⟨(i1 w hw).1.a0, (i1 w hw).1.ab, (i1 w hw).1.bd, (i1 w hw).1.ok⟩, fun m h0 h1 h2 => i7 m (r.all m h0 h1 h2), i2⟩ i3
/-! ### from parts to rows -/
def Cov : Int → List Part → Int → Prop
  | t, [], e => t = e
  | t, x :: r, e => x.p = t ∧ x.p ≤ x.q ∧ Cov (x.q + 1) r e
def rowF (F : Int → Int) (x : Part) : List Win :=
  if (if x.s = true then x.q else x.p) ≤ (if F (x.q + 1) ≤ F x.q then x.q - 1 else x.q) then [(if x.s = true then x.q else x.p, if F (x.q + 1) ≤ F x.q then x.q - 1 else x.q, if x.s = true then x.v - x.q else x.v)] else []
def Tel (F : Int → Int) (parts : List Part) : Prop := ∀ x ∈ parts, ∀ m, x.p ≤ m → m ≤ x.q → val x m = F m
theorem pw_if {c : Prop} [Decidable c] {a : Win} {R : Win → Win → Prop} : (if c then [a] else []).Pairwise R := by
  split
  · exact List.pairwise_singleton _ _
  · exact .nil
theorem rows_parts {day : Int} {F : Int → Int} (f : FOk day F) : ∀ (l : List Part) (t : Int), 0 ≤ t → Cov t l day → Tel F l →
    (∀ w ∈ l.flatMap (rowF F), t ≤ w.1 ∧ Pre day F w) ∧ (l.flatMap (rowF F)).Pairwise (fun u v => u.2.1 < v.1) ∧ ∀ m, t ≤ m → m < day → F m < F (m + 1) → ∃ w ∈ l.flatMap (rowF F), w.1 ≤ m ∧ m ≤ w.2.1
  | [], t, h0, c, _ => ⟨(fun w hw => by simp at hw), List.Pairwise.nil, fun m h1 h2 => (by have c : t = day := c; omega)⟩
  | x :: r, t, h0, c, tl => by
    obtain ⟨c1, c2, c3⟩ := c
    obtain ⟨i1, i2, i3⟩ := rows_parts f r (x.q + 1) (by omega) c3 fun y hy => tl y (List.mem_cons_of_mem _ hy)
    have tx := tl x List.mem_cons_self
    have le : x.q + 1 ≤ day := by
      clear i1 i2 i3 tl
      revert c3
      generalize x.q + 1 = u
      intro c3
      induction r generalizing u with
      | nil => have c3 : u = day := c3; omega
      | cons y r ih =>
        obtain ⟨d1, d2, d3⟩ := c3
        have := ih _ d3
        omega
    -- the part's own row
    have own : (∀ w ∈ rowF F x, t ≤ w.1 ∧ w.2.1 ≤ x.q ∧ Pre day F w) ∧ ∀ m, t ≤ m → m ≤ x.q → F m < F (m + 1) → ∃ w ∈ rowF F x, w.1 ≤ m ∧ m ≤ w.2.1 := by
      have vq := tx x.q c2 (Int.le_refl _)
      unfold rowF
      cases hs : x.s with
      | true =>
        have vv : ∀ m, x.p ≤ m → m ≤ x.q → F m = x.v := fun m h1 h2 => by
          rw [← tx m h1 h2]; unfold val; rw [hs]; rfl
        have eq := vv x.q c2 (Int.le_refl _)
        simp only [if_true]
        by_cases z : F (x.q + 1) ≤ F x.q
        · rw [if_pos z, if_neg (by omega)]
          refine ⟨(fun w hw => by cases hw), fun m h1 h2 h3 => ?_⟩
          rcases (by omega : m < x.q ∨ m = x.q) with y | y
          · have := vv m (by omega) h2; have := vv (m + 1) (by omega) (by omega); omega
          · subst y; omega
        · rw [if_neg z, if_pos (Int.le_refl _)]
          refine ⟨fun w hw => ?_, fun m h1 h2 h3 => ⟨_, List.mem_singleton.mpr rfl, ?_⟩⟩
          · rw [List.mem_singleton.mp hw]
            exact ⟨by show t ≤ x.q; omega, Int.le_refl _, by show 0 ≤ x.q; omega, Int.le_refl _, by show x.q < day; omega, fun m h1 h2 => by
              have h1 : x.q ≤ m := h1
              have h2 : m ≤ x.q := h2
              have e : m = x.q := by omega
              subst e
              exact ⟨by show F x.q = x.q + (x.v - x.q); omega, by omega⟩⟩
          · rcases (by omega : m < x.q ∨ m = x.q) with y | y
            · have := vv m (by omega) h2; have := vv (m + 1) (by omega) (by omega); omega
            · exact ⟨by show x.q ≤ m; omega, by show m ≤ x.q; omega⟩
      | false =>
        have vv : ∀ m, x.p ≤ m → m ≤ x.q → F m = m + x.v := fun m h1 h2 => by
          rw [← tx m h1 h2]; unfold val; rw [hs]; rfl
        have eq := vv x.q c2 (Int.le_refl _)
        simp only [Bool.false_eq_true, if_false]
        by_cases z : F (x.q + 1) ≤ F x.q
        · rw [if_pos z]
          by_cases y : x.p ≤ x.q - 1
          · rw [if_pos y]
            refine ⟨fun w hw => ?_, fun m h1 h2 h3 => ⟨_, List.mem_singleton.mpr rfl, ?_⟩⟩
            · rw [List.mem_singleton.mp hw]
              exact ⟨by show t ≤ x.p; omega, by show x.q - 1 ≤ x.q; omega, by show 0 ≤ x.p; omega, y, by show x.q - 1 < day; omega, fun m h1 h2 => by
                have h1 : x.p ≤ m := h1
                have h2 : m ≤ x.q - 1 := h2
                have a := vv m h1 (by omega)
                have b := vv (m + 1) (by omega) (by omega)
                exact ⟨a, by omega⟩⟩
            · exact ⟨by show x.p ≤ m; omega, (by
                show m ≤ x.q - 1
                rcases (by omega : m < x.q ∨ m = x.q) with y | y
                · omega
                · rw [y] at h3; omega)⟩
          · rw [if_neg y]
            refine ⟨(fun w hw => by cases hw), fun m h1 h2 h3 => ?_⟩
            have e : m = x.q := by omega
            subst e
            omega
        · rw [if_neg z, if_pos c2]
          refine ⟨fun w hw => ?_, fun m h1 h2 h3 => ⟨_, List.mem_singleton.mpr rfl, by show x.p ≤ m; omega, h2⟩⟩
          rw [List.mem_singleton.mp hw]
          exact ⟨by show t ≤ x.p; omega, Int.le_refl _, by show 0 ≤ x.p; omega, c2, by show x.q < day; omega, fun m h1 h2 => by
            have h1 : x.p ≤ m := h1
            have h2 : m ≤ x.q := h2
            have a := vv m h1 h2
            refine ⟨a, ?_⟩
            rcases (by omega : m < x.q ∨ m = x.q) with y | y
            · have b := vv (m + 1) (by omega) (by omega); omega
            · subst y; omega⟩
    rw [List.flatMap_cons]
    refine ⟨fun w hw => ?_, ?_, fun m h1 h2 h3 => ?_⟩
    · rcases List.mem_append.mp hw with h | h
      · exact ⟨(own.1 w h).1, (own.1 w h).2.2⟩
      · exact ⟨by have := (i1 w h).1; omega, (i1 w h).2⟩
    · refine List.pairwise_append.mpr ⟨?_, i2, fun u hu v hv => by have := (own.1 u hu).2.1; have := (i1 v hv).1; omega⟩
      exact pw_if
    · rcases (by omega : m ≤ x.q ∨ x.q + 1 ≤ m) with y | y
      · obtain ⟨w, hw, g⟩ := own.2 m h1 y h3
        exact ⟨w, List.mem_append_left _ hw, g⟩
      · obtain ⟨w, hw, g⟩ := i3 m y h2 h3
        exact ⟨w, List.mem_append_right _ hw, g⟩
theorem parts_clock {day : Int} {F : Int → Int} {l : List Part} (f : FOk day F) (c : Cov 0 l day) (t : Tel F l) : IsClock day (joinW (l.flatMap (rowF F))) F := by
  obtain ⟨i1, i2, i3⟩ := rows_parts f l 0 (Int.le_refl _) c t
  exact join_clock f ⟨fun w hw => ⟨(i1 w hw).2.a0, (i1 w hw).2.ab, (i1 w hw).2.bd, (i1 w hw).2.ok⟩, fun m h0 h1 h2 => i3 m h0 h1 h2, i2⟩
end PL
namespace PL
open PySem PySem.Spec L2
/-! ### what a clock tells, as a function -/
def cF (day : Int) (l : List Win) (t : Int) : Int := ((setOff day l t).getD (0, 0)).2
section
variable {day : Int} {l : List Win}
theorem cF_first (c : Clk day l) (h : l ≠ []) (t : Int) : ∃ x, First day l t x (cF day l t) := by
  obtain ⟨x, y, e⟩ := setOff_some (day := day) (t := t) h
  refine ⟨x, ?_⟩
  unfold cF
  rw [e]
  exact setOff_first c e
theorem cF_ok (c : Clk day l) (h : l ≠ []) : FOk day (cF day l) where
  pos := c.pos h
  mono := fun x y le => by
    obtain ⟨a, f⟩ := cF_first c h x
    obtain ⟨b, g⟩ := cF_first c h y
    exact First.mono c f g le
  ge := fun x => by
    obtain ⟨a, f⟩ := cF_first c h x
    have := dep_le c f.dep
    have := f.ge
    omega
  per := fun x => by
    obtain ⟨a, f⟩ := cF_first c h x
    obtain ⟨b, g⟩ := cF_first c h (x + day)
    have s := f.shift 1
    rw [Int.mul_one] at s
    exact (g.uni c s).2
theorem IsClock.tellF {R : List Win} {F : Int → Int} (k : IsClock day R F) : cF day R = F := by
  funext t
  obtain ⟨x, f⟩ := cF_first k.clk k.ne t
  obtain ⟨y, g⟩ := k.tell t
  exact (f.uni k.clk g).2
theorem IsClock.of (c : Clk day l) (h : l ≠ []) : IsClock day l (cF day l) := ⟨c, h, cF_first c h⟩
theorem IsClock.ok {R : List Win} {F : Int → Int} (k : IsClock day R F) : FOk day F := k.tellF ▸ cF_ok k.clk k.ne
theorem setOff_cF (c : Clk day l) (h : l ≠ []) (t : Int) : ∃ x, setOff day l t = some (x, cF day l t) := by
  obtain ⟨x, y, e⟩ := setOff_some (day := day) (t := t) h
  exact ⟨x, by unfold cF; rw [e]; rfl⟩
/-! ### one clock for each function -/
theorem IsClock.dep {R : List Win} {F : Int → Int} (k : IsClock day R F) {m y : Int} : Dep day R m y ↔ y = F m ∧ F m < F (m + 1) := by
  obtain ⟨x, f⟩ := k.tell m
  obtain ⟨x1, g⟩ := k.tell (m + 1)
  constructor
  · intro d
    have e : x = m := by have := f.least _ _ d (Int.le_refl _); have := f.ge; omega
    subst e
    have e2 := k.clk.fun_ d f.dep
    have := k.clk.mono f.dep g.dep (by have := g.ge; omega)
    exact ⟨e2, this⟩
  · rintro ⟨rfl, h⟩
    rcases (by have := f.ge; omega : x = m ∨ m + 1 ≤ x) with e | e
    · subst e; exact f.dep
    · have : First day R (m + 1) x (F m) := ⟨f.dep, e, fun a z hd ha => f.least a z hd (by omega)⟩
      have := (this.uni k.clk g).2
      omega
def In1 (l : List Win) (m y : Int) : Prop := ∃ w ∈ l, (w.1 ≤ m ∧ m ≤ w.2.1) ∧ y = m + w.2.2
theorem same_wins : ∀ (l l' : List Win), (∀ w ∈ l, w.1 ≤ w.2.1) → (∀ w ∈ l', w.1 ≤ w.2.1) → chn l = true → chn l' = true → (∀ m y, In1 l m y ↔ In1 l' m y) → l = l'
  | [], [], _, _, _, _, _ => rfl
  | [], v :: l', _, g', _, _, h => by
    obtain ⟨w, hw, _⟩ := (h v.1 (v.1 + v.2.2)).mpr ⟨v, List.mem_cons_self, ⟨Int.le_refl _, g' v List.mem_cons_self⟩, rfl⟩
    cases hw
  | u :: l, [], g, _, _, _, h => by
    obtain ⟨w, hw, _⟩ := (h u.1 (u.1 + u.2.2)).mp ⟨u, List.mem_cons_self, ⟨Int.le_refl _, g u List.mem_cons_self⟩, rfl⟩
    cases hw
  | u :: l, v :: l', g, g', c, c', h => by
    have gu := g u List.mem_cons_self
    have gv := g' v List.mem_cons_self
    have gl : ∀ w ∈ l, w.1 ≤ w.2.1 := fun w hw => g w (List.mem_cons_of_mem _ hw)
    have gl' : ∀ w ∈ l', w.1 ≤ w.2.1 := fun w hw => g' w (List.mem_cons_of_mem _ hw)
    have b := bef_all gl c
    have b' := bef_all gl' c'
    have lo : ∀ {u : Win} {l : List Win}, (∀ v ∈ l, Bef u v) → u.1 ≤ u.2.1 → ∀ {m y : Int}, In1 (u :: l) m y → u.1 ≤ m := by
      intro u l b gu m y i
      obtain ⟨w, hw, ⟨o, _⟩, _⟩ := i
      rcases List.mem_cons.mp hw with rfl | hw
      · exact o
      · have := (b w hw).1; omega
    have own : ∀ {u : Win} {l : List Win}, (∀ v ∈ l, Bef u v) → ∀ {m y : Int}, In1 (u :: l) m y → m ≤ u.2.1 → y = m + u.2.2 := by
      intro u l b m y i hm
      obtain ⟨w, hw, ⟨o, _⟩, e⟩ := i
      rcases List.mem_cons.mp hw with rfl | hw
      · exact e
      · have := (b w hw).1; omega
    have iu : ∀ m, u.1 ≤ m → m ≤ u.2.1 → In1 (v :: l') m (m + u.2.2) := fun m h1 h2 => (h m _).mp ⟨u, List.mem_cons_self, ⟨h1, h2⟩, rfl⟩
    have iv : ∀ m, v.1 ≤ m → m ≤ v.2.1 → In1 (u :: l) m (m + v.2.2) := fun m h1 h2 => (h m _).mpr ⟨v, List.mem_cons_self, ⟨h1, h2⟩, rfl⟩
    have e1 : u.1 = v.1 := by
      have := lo b' gv (iu u.1 (Int.le_refl _) gu)
      have := lo b gu (iv v.1 (Int.le_refl _) gv)
      omega
    have e3 : u.2.2 = v.2.2 := by
      have := own b' (iu u.1 (Int.le_refl _) gu) (by omega)
      omega
    have nolt : ∀ {u v : Win} {l : List Win}, chn (u :: l) = true → (∀ v ∈ l, Bef u v) → (∀ w ∈ l, w.1 ≤ w.2.1) → u.1 = v.1 → u.2.2 = v.2.2 → u.1 ≤ u.2.1 → (∀ m, v.1 ≤ m → m ≤ v.2.1 → In1 (u :: l) m (m + v.2.2)) → ¬ u.2.1 < v.2.1 := by
      intro u v l c b gl e1 e3 gu iv lt
      obtain ⟨w, hw, ⟨o1, o2⟩, e⟩ := iv (u.2.1 + 1) (by omega) (by omega)
      rcases List.mem_cons.mp hw with rfl | hw
      · omega
      cases l with
      | nil => cases hw
      | cons x l =>
        have fx : fol u x = true := by
          have c : (fol u x && chn (x :: l)) = true := c
          exact (Bool.and_eq_true _ _ ▸ c).1
        have cx := chn_tail c
        have bx := bef_all (fun w hw => gl w (List.mem_cons_of_mem _ hw)) cx
        have b1 := (b x List.mem_cons_self).1
        have gx := gl x List.mem_cons_self
        have : w = x := by
          rcases List.mem_cons.mp hw with rfl | hw
          · rfl
          · have := (bx w hw).1; omega
        subst this
        unfold fol at fx
        split at fx
        · cases fx
        · split at fx
          · omega
          · have := of_decide_eq_true fx; omega
    have e2 : u.2.1 = v.2.1 := by
      have h1 := nolt c b gl e1 e3 gu iv
      have h2 := nolt c' b' gl' e1.symm e3.symm gv iu
      omega
    have euv : u = v := by
      exact Prod.ext e1 (Prod.ext e2 e3)
    subst v
    have tl : ∀ {l : List Win}, (∀ v ∈ l, Bef u v) → ∀ m y, In1 l m y ↔ In1 (u :: l) m y ∧ u.2.1 < m := by
      intro l b m y
      constructor
      · rintro ⟨w, hw, o, e⟩
        exact ⟨⟨w, List.mem_cons_of_mem _ hw, o, e⟩, by have := (b w hw).1; omega⟩
      · rintro ⟨⟨w, hw, o, e⟩, lt⟩
        rcases List.mem_cons.mp hw with rfl | hw
        · omega
        · exact ⟨w, hw, o, e⟩
    rw [same_wins l l' gl gl' (chn_tail c) (chn_tail c') fun m y => by rw [tl b, tl b', h]]
theorem Clk.chn (c : Clk day l) : chn l = true := by
  cases l with
  | nil => rfl
  | cons f r =>
    have w : (PL.chn (f :: r) && _) = true := c.ok
    exact (Bool.and_eq_true _ _ ▸ w).1
theorem IsClock.uni {R R' : List Win} {F : Int → Int} (k : IsClock day R F) (k' : IsClock day R' F) : R = R' := by
  have lift : ∀ {R : List Win}, IsClock day R F → ∀ m y, In1 R m y ↔ (0 ≤ m ∧ m < day) ∧ Dep day R m y := by
    intro R k m y
    constructor
    · rintro ⟨w, hw, o, e⟩
      obtain ⟨a, b, c, _⟩ := k.clk.good w hw
      exact ⟨by omega, w, hw, by rw [Int.emod_eq_of_lt (by omega) (by omega)]; exact o, e⟩
    · rintro ⟨⟨h0, h1⟩, w, hw, o, e⟩
      rw [Int.emod_eq_of_lt h0 h1] at o
      exact ⟨w, hw, o, e⟩
  exact same_wins R R' (fun w hw => (k.clk.good w hw).2.1) (fun w hw => (k'.clk.good w hw).2.1) k.clk.chn k'.clk.chn fun m y => by
    rw [lift k, lift k', k.dep, k'.dep]
/-! ### the stretches tell it -/
theorem first_at (c : Clk day l) {w : Win} (hw : w ∈ l) {m : Int} (h1 : w.1 ≤ m) (h2 : m ≤ w.2.1) : First day l m m (m + w.2.2) := by
  obtain ⟨a, b, d, _⟩ := c.good w hw
  exact ⟨⟨w, hw, by rw [Int.emod_eq_of_lt (by omega) (by omega)]; exact ⟨h1, h2⟩, rfl⟩, Int.le_refl _, fun _ _ _ h => h⟩
theorem cov_go {tail : List Part} {e : Int} : ∀ (l : List Win) (t : Int), l.Pairwise Bef → (∀ w ∈ l, w.1 ≤ w.2.1) → (∀ w ∈ l, t ≤ w.1) → Cov (endAt l t) tail e → Cov t (strGo l t ++ tail) e
  | [], _, _, _, _, h => h
  | w :: l, t, p, g, lo, h => by
    obtain ⟨p1, p2⟩ := List.pairwise_cons.mp p
    have ih := cov_go (tail := tail) (e := e) l (w.2.1 + 1) p2 (fun v hv => g v (List.mem_cons_of_mem _ hv)) (fun v hv => by have := (p1 v hv).1; omega) h
    have gw := g w List.mem_cons_self
    have lw := lo w List.mem_cons_self
    unfold strGo
    by_cases q : t < w.1
    · rw [if_pos q]
      exact ⟨rfl, (by show t ≤ w.1 - 1; omega), (by show w.1 = w.1 - 1 + 1; omega), gw, ih⟩
    · rw [if_neg q]
      exact ⟨(by show w.1 = t; omega), gw, ih⟩
theorem tel_go (c : Clk day l) (h : l ≠ []) : ∀ (l1 l0 : List Win) (t : Int), l = l0 ++ l1 → 0 ≤ t → (∀ v ∈ l0, v.2.1 < t) → (∀ v ∈ l1, t ≤ v.1) → Tel (cF day l) (strGo l1 t)
  | [], _, _, _, _, _, _ => fun x hx => by cases hx
  | w :: l1, l0, t, e, h0, h2, h3 => by
    have hw : w ∈ l := by rw [e]; exact List.mem_append_right _ List.mem_cons_self
    obtain ⟨a, b, d, _⟩ := c.good w hw
    have p := c.pair
    rw [e] at p
    have p := (List.pairwise_append.mp p).2.1
    obtain ⟨p1, _⟩ := List.pairwise_cons.mp p
    have hwt := h3 w List.mem_cons_self
    have ih := tel_go c h l1 (l0 ++ [w]) (w.2.1 + 1) (by rw [e, List.append_assoc]; rfl) (by omega) (fun v hv => by
      rcases List.mem_append.mp hv with q | q
      · have := h2 v q; omega
      · rw [List.mem_singleton.mp q]; omega) (fun v hv => by have := (p1 v hv).1; omega)
    have own : ∀ m, w.1 ≤ m → m ≤ w.2.1 → m + w.2.2 = cF day l m := fun m h1 h2 => by
      obtain ⟨x, f⟩ := cF_first c h m
      exact ((first_at c hw h1 h2).uni c f).2
    have gap : ∀ m, t ≤ m → m < w.1 → w.1 + w.2.2 = cF day l m := fun m h1 hm => by
      obtain ⟨x, f⟩ := cF_first c h m
      have g : First day l m w.1 (w.1 + w.2.2) := by
        have c' := c
        rw [e] at c' ⊢
        exact first_gap c' (x := m) (by omega) (by omega) (fun v hv => by have := h2 v hv; omega)
      exact (g.uni c f).2
    intro x hx
    unfold strGo at hx
    rcases List.mem_append.mp hx with hx | hx
    · split at hx
      · rw [List.mem_singleton.mp hx]
        intro m m1 m2
        have m1 : t ≤ m := m1
        have m2 : m ≤ w.1 - 1 := m2
        exact gap m m1 (by omega)
      · cases hx
    · rcases List.mem_cons.mp hx with rfl | hx
      · intro m m1 m2
        exact own m m1 m2
      · exact ih x hx
theorem strx_cov (c : Clk day l) (h : l ≠ []) : Cov 0 (strx day l) day := by
  cases l with
  | nil => exact absurd rfl h
  | cons f r =>
    have g : ∀ w ∈ f :: r, w.1 ≤ w.2.1 := fun w hw => (c.good w hw).2.1
    have hd := c.pos h
    have ge := endAt_ge (t := 0) c.good (by omega)
    refine cov_go (f :: r) 0 c.pair g (fun v hv => (c.good v hv).1) ?_
    by_cases q : endAt (f :: r) 0 < day
    · rw [if_pos q]
      exact ⟨rfl, (by show endAt (f :: r) 0 ≤ day - 1; omega), (by show day - 1 + 1 = day; omega)⟩
    · rw [if_neg q]
      show endAt (f :: r) 0 = day
      omega
theorem strx_tel (c : Clk day l) (h : l ≠ []) : Tel (cF day l) (strx day l) := by
  have tg := tel_go c h l [] 0 rfl (Int.le_refl _) (fun v hv => by cases hv) (fun v hv => (c.good v hv).1)
  cases l with
  | nil => exact absurd rfl h
  | cons f r =>
    have g : ∀ w ∈ f :: r, w.1 ≤ w.2.1 := fun w hw => (c.good w hw).2.1
    have en := endAt_all (t := 0) c.pair g
    have f0 := en f List.mem_cons_self
    have gf := (c.good f List.mem_cons_self)
    obtain ⟨_, _, _, _⟩ := gf
    intro x hx
    unfold strx at hx
    rcases List.mem_append.mp hx with hx | hx
    · exact tg x hx
    · split at hx
      · rw [List.mem_singleton.mp hx]
        intro m m1 m2
        have m1 : endAt (f :: r) 0 ≤ m := m1
        have m2 : m ≤ day - 1 := m2
        have fw := first_wrap c (x := m) (by omega) (by omega) fun v hv => by have := en v hv; omega
        obtain ⟨x, fx⟩ := cF_first c h m
        exact (fw.uni c fx).2
      · cases hx
end
/-! ### two days of parts, laid one on the other -/
/-- the parts l from the moment p on -/
def Opn (p e : Int) : List Part → Prop
  | [] => p = e
  | x :: r => x.p ≤ p ∧ p ≤ x.q ∧ Cov (x.q + 1) r e
theorem cov_opn {t e : Int} {l : List Part} (h : Cov t l e) : Opn t e l := by
  cases l with
  | nil => exact h
  | cons x r => exact ⟨by have := h.1; omega, by have := h.1; have := h.2.1; omega, h.2.2⟩
theorem cov_app : ∀ {l l' : List Part} {t u e : Int}, Cov t l u → Cov u l' e → Cov t (l ++ l') e
  | [], _, t, u, e, h, h' => by have h : t = u := h; subst h; exact h'
  | x :: l, l', t, u, e, h, h' => ⟨h.1, h.2.1, cov_app h.2.2 h'⟩
theorem cov_le : ∀ {l : List Part} {t e : Int}, Cov t l e → t ≤ e
  | [], t, e, h => by have h : t = e := h; omega
  | x :: l, t, e, h => by have := cov_le h.2.2; have := h.1; have := h.2.1; omega
theorem opn_lt {x : Part} {l : List Part} {p e : Int} (h : Opn p e (x :: l)) : p < e := by
  have := cov_le h.2.2; have := h.2.1; omega
/-- what chosen must tell of the parts x and y from p to q -/
structure Cho (f : Int → Int → Int) (p q : Int) (x y : Part) (ps : List Part) : Prop where
  cov : Cov p ps (q + 1)
  tel : ∀ z ∈ ps, ∀ m, z.p ≤ m → m ≤ z.q → val z m = f (val x m) (val y m)
  len : ps.length ≤ 2
def pick (soon : Bool) (a b : Int) : Int := if soon = true then (if b < a then b else a) else (if b > a then b else a)
end PL
namespace PL
open PySem PySem.Spec L2
/-! ### the last item -/
theorem ixN_last (n : Nat) : ixN (n + 1) (-1) = some n := by
  unfold ixN
  rw [if_neg (by decide)]
  split
  · exact congrArg some (by omega)
  · rename_i h; exact absurd (by omega) h
theorem wAt_last (l : List PyData) (x : PyData) (K : PyData → Prop) : wAt (l ++ [x]) (-1) K .mk = K x := by
  unfold wAt atI
  rw [List.length_append, List.length_singleton, ixN_last]
  simp
theorem set_last {α : Type} (l : List α) (x y : α) : (l ++ [x]).set l.length y = l ++ [y] := by
  induction l with
  | nil => rfl
  | cons z l ih => simp [ih]
theorem empty_snoc {α : Type} (l : List α) (x : α) : (l ++ [x]).isEmpty = false := by cases l <;> rfl
/-! ### lengths -/
theorem joinGo_len : ∀ (l : List Win) (c : Win), (joinGo c l).length ≤ l.length + 1
  | [], c => Nat.le_refl _
  | w :: r, c => by
    unfold joinGo
    split
    · have := joinGo_len r (c.1, w.2.1, w.2.2)
      rw [List.length_cons]; omega
    · have := joinGo_len r w
      rw [List.length_cons, List.length_cons]; omega
theorem joinW_len (l : List Win) : (joinW l).length ≤ l.length := by
  cases l with
  | nil => exact Nat.le_refl _
  | cons w r => exact joinGo_len r w
theorem if1_len {α : Type} {c : Prop} [Decidable c] {a : α} : (if c then [a] else []).length ≤ 1 := by
  split
  · exact Nat.le_refl _
  · exact Nat.zero_le _
theorem if1_rev {α : Type} {c : Prop} [Decidable c] {a : α} : (if c then [a] else []).reverse = (if c then [a] else []) := by
  split <;> rfl
theorem rowF_len (F : Int → Int) (x : Part) : (rowF F x).length ≤ 1 := if1_len
theorem rows_len (F : Int → Int) : ∀ l : List Part, (l.flatMap (rowF F)).length ≤ l.length
  | [] => Nat.le_refl _
  | x :: l => by
    rw [List.flatMap_cons, List.length_append, List.length_cons]
    have := rowF_len F x
    have := rows_len F l
    omega
theorem rowF_rev (F : Int → Int) (x : Part) : (rowF F x).reverse = rowF F x := if1_rev
/-! ### the parts chosen -/
theorem pick_comm (soon : Bool) (a b : Int) : pick soon a b = pick soon b a := by
  unfold pick
  cases soon
  · simp only [Bool.false_eq_true, if_false]; split <;> split <;> omega
  · simp only [if_true]; split <;> split <;> omega
theorem cho_same {soon s : Bool} {p q a b a' b' v v' : Int} (le : p ≤ q) : Cho (pick soon) p q ⟨a, b, s, v⟩ ⟨a', b', s, v'⟩ [⟨p, q, s, pick soon v v'⟩] where
  cov := ⟨rfl, le, rfl⟩
  len := (by decide : 1 ≤ 2)
  tel := fun z hz m _ _ => by
    rw [List.mem_singleton.mp hz]
    unfold val
    cases s
    · simp only [Bool.false_eq_true, if_false]
      unfold pick
      cases soon
      · simp only [Bool.false_eq_true, if_false]; split <;> split <;> omega
      · simp only [if_true]; split <;> split <;> omega
    · simp only [if_true]
def mix (soon : Bool) (p q st go : Int) : List Part :=
  (if p ≤ st - go then [⟨p, if st - go < q then st - go else q, !soon, if soon = true then go else st⟩] else []) ++ (if st - go < q then [⟨if st - go + 1 > p then st - go + 1 else p, q, soon, if soon = true then st else go⟩] else [])
theorem cho_mix {soon : Bool} {p q st go : Int} {x y : Part} (le : p ≤ q) (hv : ∀ m, pick soon (val x m) (val y m) = pick soon st (m + go)) : Cho (pick soon) p q x y (mix soon p q st go) := by
  have t1 : ∀ m, m ≤ st - go → (if (!soon) = true then (if soon = true then go else st) else m + (if soon = true then go else st)) = pick soon st (m + go) := fun m h => by
    unfold pick
    cases soon
    · simp only [Bool.not_false, if_true, Bool.false_eq_true, if_false]; split <;> omega
    · simp only [Bool.not_true, Bool.false_eq_true, if_false, if_true]; split <;> omega
  have t2 : ∀ m, st - go < m → (if soon = true then (if soon = true then st else go) else m + (if soon = true then st else go)) = pick soon st (m + go) := fun m h => by
    unfold pick
    cases soon
    · simp only [Bool.false_eq_true, if_false]; split <;> omega
    · simp only [if_true]; split <;> omega
  unfold mix
  by_cases h1 : p ≤ st - go
  · by_cases h2 : st - go < q
    · simp only [if_pos h1, if_pos h2, List.singleton_append]
      rw [if_pos (show st - go + 1 > p by omega)]
      refine ⟨⟨rfl, h1, rfl, (by show st - go + 1 ≤ q; omega), rfl⟩, fun z hz m m1 m2 => ?_, Nat.le_refl _⟩
      rw [hv]
      rcases List.mem_cons.mp hz with rfl | hz
      · exact t1 m m2
      · rw [List.mem_singleton.mp hz] at m1 ⊢
        have m1 : st - go + 1 ≤ m := m1
        exact t2 m (by omega)
    · simp only [if_pos h1, if_neg h2, List.append_nil]
      refine ⟨⟨rfl, le, rfl⟩, fun z hz m m1 m2 => ?_, (by show 1 ≤ 2; decide)⟩
      rw [hv]
      rw [List.mem_singleton.mp hz] at m2 ⊢
      have m2 : m ≤ q := m2
      exact t1 m (by omega)
  · have h2 : st - go < q := by omega
    simp only [if_neg h1, if_pos h2, List.nil_append]
    rw [if_neg (show ¬ st - go + 1 > p by omega)]
    refine ⟨⟨rfl, le, rfl⟩, fun z hz m m1 m2 => ?_, (by show 1 ≤ 2; decide)⟩
    rw [hv]
    rw [List.mem_singleton.mp hz] at m1 ⊢
    have m1 : p ≤ m := m1
    exact t2 m (by omega)
/-! ### two days laid on one another -/
structure Bl (soon : Bool) (l m : List Part) (e : Int) (o0 o1 t0 t1 acc : List Part) (p : Int) : Prop where
  el : l = o0 ++ o1
  em : m = t0 ++ t1
  ol : Opn p e o1
  om : Opn p e t1
  cov : Cov 0 acc p
  tel : ∀ F G, Tel F l → Tel G m → Tel (fun t => pick soon (F t) (G t)) acc
  len : acc.length ≤ 2 * (o0.length + t0.length)
theorem bl_start {soon : Bool} {l m : List Part} {e : Int} (h : Cov 0 l e) (g : Cov 0 m e) : Bl soon l m e [] l [] m [] 0 :=
  ⟨rfl, rfl, cov_opn h, cov_opn g, rfl, (fun _ _ _ _ x hx => by cases hx), Nat.zero_le _⟩
theorem cov_mem : ∀ {ps : List Part} {t e : Int}, Cov t ps e → ∀ z ∈ ps, t ≤ z.p ∧ z.q + 1 ≤ e
  | [], _, _, _, z, hz => by cases hz
  | u :: ps, t, e, cc, z, hz => by
    obtain ⟨c1, c2, c3⟩ := cc
    have cl := cov_le c3
    rcases List.mem_cons.mp hz with rfl | hz
    · omega
    · have := cov_mem c3 z hz; omega
theorem cov_snoc : ∀ {l : List Part} {x : Part} {s t : Int}, Cov s (l ++ [x]) t → Cov s l x.p ∧ x.p ≤ x.q ∧ x.q + 1 = t
  | [], x, s, t, h => ⟨h.1.symm, h.2.1, h.2.2⟩
  | y :: l, x, s, t, h => by
    obtain ⟨a, b, c⟩ := cov_snoc h.2.2
    exact ⟨⟨h.1, h.2.1, a⟩, b, c⟩
theorem opn_step {x : Part} {r : List Part} {p q e : Int} (h : Opn p e (x :: r)) (le : q ≤ x.q) (ge : p ≤ q) : if x.q = q then Opn (q + 1) e r else Opn (q + 1) e (x :: r) := by
  obtain ⟨h1, h2, h3⟩ := h
  split
  · rename_i z; subst z; exact cov_opn h3
  · exact ⟨by omega, by omega, h3⟩
theorem bl_step {soon : Bool} {l m o0 r t0 s acc ps : List Part} {x y : Part} {e p : Int} (b : Bl soon l m e o0 (x :: r) t0 (y :: s) acc p)
    (c : Cho (pick soon) p (if y.q < x.q then y.q else x.q) x y ps) :
    Bl soon l m e (if x.q = (if y.q < x.q then y.q else x.q) then o0 ++ [x] else o0) (if x.q = (if y.q < x.q then y.q else x.q) then r else x :: r)
      (if y.q = (if y.q < x.q then y.q else x.q) then t0 ++ [y] else t0) (if y.q = (if y.q < x.q then y.q else x.q) then s else y :: s) (acc ++ ps) ((if y.q < x.q then y.q else x.q) + 1) := by
  obtain ⟨bl, bm, ol, om, cov, tel, len⟩ := b
  have o1 := opn_step (q := if y.q < x.q then y.q else x.q) ol (by split <;> omega) (by have := ol.2.1; have := om.2.1; split <;> omega)
  have o2 := opn_step (q := if y.q < x.q then y.q else x.q) om (by split <;> omega) (by have := ol.2.1; have := om.2.1; split <;> omega)
  have lx := ol.1
  have ly := om.1
  have one : x.q = (if y.q < x.q then y.q else x.q) ∨ y.q = (if y.q < x.q then y.q else x.q) := by split <;> omega
  have qx : (if y.q < x.q then y.q else x.q) ≤ x.q := by split <;> omega
  have qy : (if y.q < x.q then y.q else x.q) ≤ y.q := by split <;> omega
  generalize (if y.q < x.q then y.q else x.q) = q at *
  refine ⟨?_, ?_, ?_, ?_, cov_app cov c.cov, fun F G hF hG => ?_, ?_⟩
  · split
    · rw [bl, List.append_assoc]; rfl
    · exact bl
  · split
    · rw [bm, List.append_assoc]; rfl
    · exact bm
  · split
    · rename_i z; rw [if_pos z] at o1; exact o1
    · rename_i z; rw [if_neg z] at o1; exact o1
  · split
    · rename_i z; rw [if_pos z] at o2; exact o2
    · rename_i z; rw [if_neg z] at o2; exact o2
  · intro z hz
    rcases List.mem_append.mp hz with hz | hz
    · exact tel F G hF hG z hz
    · intro k k1 k2
      rw [c.tel z hz k k1 k2]
      -- z lies in p..q
      have zb := cov_mem c.cov z hz
      rw [hF x (by rw [bl]; exact List.mem_append_right _ List.mem_cons_self) k (by omega) (by omega), hG y (by rw [bm]; exact List.mem_append_right _ List.mem_cons_self) k (by omega) (by omega)]
  · have := c.len
    rw [List.length_append]
    rcases one with z | z
    · rw [if_pos z, List.length_append, List.length_singleton]
      split
      · rw [List.length_append, List.length_singleton]; omega
      · omega
    · rw [if_pos z, List.length_append, List.length_singleton]
      split
      · rw [List.length_append, List.length_singleton]; omega
      · omega
theorem bl_end {soon : Bool} {l m o0 t0 t1 acc : List Part} {e p : Int} (b : Bl soon l m e o0 [] t0 t1 acc p) : Cov 0 acc e := by
  have : p = e := b.ol
  subst this
  exact b.cov
theorem bl_more {soon : Bool} {l m o0 t0 t1 acc : List Part} {x : Part} {r : List Part} {e p : Int} (b : Bl soon l m e o0 (x :: r) t0 t1 acc p) : ∃ y s, t1 = y :: s := by
  have := opn_lt b.ol
  cases t1 with
  | nil =>
    have h : p = e := b.om
    omega
  | cons y s => exact ⟨y, s, rfl⟩
/-! ### the sooner, the later -/
def SoonR (day : Int) (l m R : List Win) : Prop := (l = [] → R = m) ∧ (m = [] → R = l) ∧ (l ≠ [] → m ≠ [] → IsClock day R fun t => pick true (cF day l t) (cF day m t))
def LateR (day : Int) (l m R : List Win) : Prop := ((l = [] ∨ m = []) → R = []) ∧ (l ≠ [] → m ≠ [] → IsClock day R fun t => pick false (cF day l t) (cF day m t))
def BehR (day : Int) (l m R : List Win) : Prop := ((l = [] ∨ m = []) → R = []) ∧ (l ≠ [] → m ≠ [] → IsClock day R fun t => cF day m (cF day l t))
theorem FOk.pick {day : Int} {F G : Int → Int} (f : FOk day F) (g : FOk day G) (soon : Bool) : FOk day fun t => PL.pick soon (F t) (G t) := by
  refine ⟨f.pos, fun x y le => ?_, fun x => ?_, fun x => ?_⟩
  · have := f.mono x y le; have := g.mono x y le
    show PL.pick soon _ _ ≤ PL.pick soon _ _
    unfold PL.pick
    cases soon <;> simp only [Bool.false_eq_true, if_false, if_true] <;> split <;> split <;> omega
  · have := f.ge x; have := g.ge x
    show x ≤ PL.pick soon _ _
    unfold PL.pick
    cases soon <;> simp only [Bool.false_eq_true, if_false, if_true] <;> split <;> omega
  · show PL.pick soon (F (x + day)) (G (x + day)) = PL.pick soon _ _ + day
    rw [f.per, g.per]
    unfold PL.pick
    cases soon <;> simp only [Bool.false_eq_true, if_false, if_true] <;> split <;> split <;> omega
theorem FOk.comp {day : Int} {F G : Int → Int} (f : FOk day F) (g : FOk day G) : FOk day fun t => G (F t) :=
  ⟨f.pos, fun x y le => g.mono _ _ (f.mono x y le), fun x => by have := f.ge x; have := g.ge (F x); omega, fun x => by show G (F (x + day)) = G (F x) + day; rw [f.per, g.per]⟩
theorem SoonR.uni {day : Int} {l m R R' : List Win} (h : SoonR day l m R) (h' : SoonR day l m R') : R = R' := by
  by_cases e : l = []
  · rw [h.1 e, h'.1 e]
  · by_cases e2 : m = []
    · rw [h.2.1 e2, h'.2.1 e2]
    · exact (h.2.2 e e2).uni (h'.2.2 e e2)
theorem LateR.uni {day : Int} {l m R R' : List Win} (h : LateR day l m R) (h' : LateR day l m R') : R = R' := by
  by_cases e : l = [] ∨ m = []
  · rw [h.1 e, h'.1 e]
  · exact (h.2 (fun z => e (.inl z)) fun z => e (.inr z)).uni (h'.2 (fun z => e (.inl z)) fun z => e (.inr z))
theorem BehR.uni {day : Int} {l m R R' : List Win} (h : BehR day l m R) (h' : BehR day l m R') : R = R' := by
  by_cases e : l = [] ∨ m = []
  · rw [h.1 e, h'.1 e]
  · exact (h.2 (fun z => e (.inl z)) fun z => e (.inr z)).uni (h'.2 (fun z => e (.inl z)) fun z => e (.inr z))
theorem SoonR.clk {day : Int} {l m R : List Win} (h : SoonR day l m R) (c : Clk day l) (d : Clk day m) : Clk day R := by
  by_cases e : l = []
  · rw [h.1 e]; exact d
  · by_cases e2 : m = []
    · rw [h.2.1 e2]; exact c
    · exact (h.2.2 e e2).clk
theorem clk_nil (day : Int) : Clk day [] := ⟨(fun w hw => by cases hw), rfl⟩
theorem LateR.clk {day : Int} {l m R : List Win} (h : LateR day l m R) : Clk day R := by
  by_cases e : l = [] ∨ m = []
  · rw [h.1 e]; exact clk_nil day
  · exact (h.2 (fun z => e (.inl z)) fun z => e (.inr z)).clk
theorem BehR.clk {day : Int} {l m R : List Win} (h : BehR day l m R) : Clk day R := by
  by_cases e : l = [] ∨ m = []
  · rw [h.1 e]; exact clk_nil day
  · exact (h.2 (fun z => e (.inl z)) fun z => e (.inr z)).clk
end PL
namespace PL
open PySem PySem.Spec L2
theorem min_some {day t : Int} : ∀ {l : List Win}, l ≠ [] → ∃ z, MinCome day l t z
  | [], h => absurd rfl h
  | [w], _ => ⟨_, ⟨w, List.mem_cons_self, rfl⟩, fun v hv => by rw [List.mem_singleton.mp hv]; exact Int.le_refl _⟩
  | w :: v :: l, _ => by
    obtain ⟨z, ⟨u, hu, rfl⟩, hz⟩ := min_some (day := day) (t := t) (l := v :: l) (by simp)
    by_cases q : nextOpen day w.1 w.2.1 t + w.2.2 ≤ nextOpen day u.1 u.2.1 t + u.2.2
    · refine ⟨_, ⟨w, List.mem_cons_self, rfl⟩, fun x hx => ?_⟩
      rcases List.mem_cons.mp hx with rfl | hx
      · exact Int.le_refl _
      · have := hz x hx; omega
    · refine ⟨_, ⟨u, List.mem_cons_of_mem _ hu, rfl⟩, fun x hx => ?_⟩
      rcases List.mem_cons.mp hx with rfl | hx
      · omega
      · exact hz x hx
theorem min_cF {day t y : Int} {l : List Win} (c : Clk day l) (h : l ≠ []) (m : MinCome day l t y) : y = cF day l t := by
  obtain ⟨x, f⟩ := cF_first c h t
  exact min_first c f m
theorem min_ne {day t y : Int} {l : List Win} (m : MinCome day l t y) : l ≠ [] := fun e => by
  subst e
  obtain ⟨⟨w, hw, _⟩, _⟩ := m
  cases hw
theorem min_uni {day t y y' : Int} {l : List Win} (m : MinCome day l t y) (m' : MinCome day l t y') : y = y' := by
  obtain ⟨⟨w, hw, rfl⟩, h⟩ := m
  obtain ⟨⟨v, hv, rfl⟩, h'⟩ := m'
  have := h v hv
  have := h' w hw
  omega
theorem min_app {day t y y' : Int} {l m : List Win} (a : MinCome day l t y) (b : MinCome day m t y') : MinCome day (l ++ m) t (pick true y y') := by
  obtain ⟨⟨w, hw, rfl⟩, h⟩ := a
  obtain ⟨⟨v, hv, rfl⟩, h'⟩ := b
  unfold pick
  rw [if_pos rfl]
  split
  · refine ⟨⟨v, List.mem_append_right _ hv, rfl⟩, fun x hx => ?_⟩
    rcases List.mem_append.mp hx with q | q
    · have := h x q; omega
    · exact h' x q
  · refine ⟨⟨w, List.mem_append_left _ hw, rfl⟩, fun x hx => ?_⟩
    rcases List.mem_append.mp hx with q | q
    · exact h x q
    · have := h' x q; omega
theorem IsClock.first {day : Int} {R : List Win} {F : Int → Int} (k : IsClock day R F) {t x y : Int} (f : First day R t x y) : y = F t := by
  obtain ⟨z, g⟩ := k.tell t
  exact (f.uni k.clk g).2
theorem soon_min {day t y : Int} {l m R : List Win} (s : SoonR day l m R) (c : Clk day l) (d : Clk day m) (h : MinCome day (l ++ m) t y) : R ≠ [] ∧ y = cF day R t := by
  by_cases e : l = []
  · subst e
    rw [s.1 rfl]
    have h : MinCome day m t y := h
    exact ⟨min_ne h, min_cF d (min_ne h) h⟩
  · by_cases e2 : m = []
    · subst e2
      rw [s.2.1 rfl]
      rw [List.append_nil] at h
      exact ⟨min_ne h, min_cF c (min_ne h) h⟩
    · have k := s.2.2 e e2
      refine ⟨k.ne, ?_⟩
      obtain ⟨z1, a⟩ := min_some (day := day) (t := t) e
      obtain ⟨z2, b⟩ := min_some (day := day) (t := t) e2
      have := min_uni h (min_app a b)
      rw [min_cF c e a, min_cF d e2 b] at this
      rw [k.tellF]
      exact this
theorem soon_nil {day : Int} {l m R : List Win} (s : SoonR day l m R) : R = [] ↔ l = [] ∧ m = [] := by
  by_cases e : l = []
  · rw [s.1 e]; exact ⟨fun h => ⟨e, h⟩, fun h => h.2⟩
  · by_cases e2 : m = []
    · rw [s.2.1 e2]; exact ⟨fun h => absurd h e, fun h => absurd h.1 e⟩
    · exact ⟨fun h => absurd h (s.2.2 e e2).ne, fun h => absurd h.1 e⟩
theorem setOff_cF2 {day t x y : Int} {l : List Win} (c : Clk day l) (h : setOff day l t = some (x, y)) : l ≠ [] ∧ y = cF day l t := by
  have ne : l ≠ [] := fun e => by subst e; cases h
  obtain ⟨z, e⟩ := setOff_cF c ne t
  rw [e] at h
  cases h
  exact ⟨ne, rfl⟩
/-! ### lists of two clocks -/
theorem eqv_ll (l m l' m' : List Win) : PyData.eqv (.list [.list (l.map wd), .list (m.map wd)]) (.list [.list (l'.map wd), .list (m'.map wd)]) = (decide (l = l') && decide (m = m')) := by
  simp only [PyData.eqv, PyData.eqvAll]
  rw [eqvAll_wd, eqvAll_wd, Bool.and_true]
theorem shaped_ll (l m : List Win) : SeqAt.shaped (.list [.list (l.map wd), .list (m.map wd)]) = true := by
  have a := lay_cd l
  have b := lay_cd m
  have c := depth_cd l
  have d := depth_cd m
  unfold SeqAt.shaped
  rw [PyData.canLay0, PyData.canLayAll0, PyData.canLayAll0, PyData.canLayAll0, PyData.canLay0, PyData.canLay0, a, b, Bool.true_and, Bool.true_and, Bool.true_and]
  refine decide_eq_true ?_
  rw [PyData.depth, PyData.depthAll, PyData.depthAll, PyData.depthAll, PyData.depth, PyData.depth]
  generalize PyData.depthAll (l.map wd) = x at *
  generalize PyData.depthAll (m.map wd) = y at *
  have : max (x + 1) (max (y + 1) 0) ≤ 3 := by rw [Nat.max_def, Nat.max_def]; split <;> split <;> omega
  omega
theorem nil_map {l : List Win} : (l.map wd = []) = (l = []) := by
  cases l with
  | nil => simp
  | cons _ _ => simp
theorem good_app {day : Int} {l m : List Win} (c : Clk day l) (d : Clk day m) : ∀ w ∈ l ++ m, Good day w := fun w hw => by
  rcases List.mem_append.mp hw with h | h
  · exact c.good w h
  · exact d.good w h
theorem late_nil {day : Int} {l m R : List Win} (s : LateR day l m R) : R = [] ↔ l = [] ∨ m = [] := by
  by_cases e : l = [] ∨ m = []
  · rw [s.1 e]; exact ⟨fun _ => e, fun _ => rfl⟩
  · exact ⟨fun h => absurd h (s.2 (fun z => e (.inl z)) fun z => e (.inr z)).ne, fun h => absurd h e⟩
theorem beh_nil {day : Int} {l m R : List Win} (s : BehR day l m R) : R = [] ↔ l = [] ∨ m = [] := by
  by_cases e : l = [] ∨ m = []
  · rw [s.1 e]; exact ⟨fun _ => e, fun _ => rfl⟩
  · exact ⟨fun h => absurd h (s.2 (fun z => e (.inl z)) fun z => e (.inr z)).ne, fun h => absurd h e⟩
theorem empty_map {l : List Win} : (l.map wd).isEmpty = decide (l = []) := by
  cases l with
  | nil => rfl
  | cons _ _ => rfl
end PL
namespace PL
open PySem PySem.Spec L2
/-! ### a ride and then a day told by parts -/
theorem cov_at : ∀ {l : List Part} {t e : Int} {k : Nat} (_ : Cov t l e) (h : k < l.length), t ≤ l[k].p ∧ l[k].p ≤ l[k].q ∧ l[k].q < e ∧ (k = 0 → l[k].p = t) ∧ (k + 1 = l.length → l[k].q + 1 = e) ∧ ∀ h' : k + 1 < l.length, l[k + 1].p = l[k].q + 1
  | x :: r, t, e, 0, c, _ => by
    have ce := cov_le c.2.2
    refine ⟨by show t ≤ x.p; have := c.1; omega, c.2.1, by show x.q < e; omega, fun _ => c.1, fun h => ?_, fun h' => ?_⟩
    · cases r with
      | nil => exact c.2.2
      | cons _ _ => simp at h
    · cases r with
      | nil => simp at h'
      | cons y r => exact c.2.2.1
  | x :: r, t, e, k + 1, c, h => by
    have h2 : k < r.length := by simpa using h
    obtain ⟨a, b, d, _, f, g⟩ := cov_at c.2.2 h2
    refine ⟨by show t ≤ r[k].p; have := c.1; have := c.2.1; omega, b, d, fun z => by omega, fun z => f (by simpa using z), fun h' => g (by simpa using h')⟩
structure Ca (day : Int) (G : Int → Int) (l : List Part) (p q ride : Int) (base : Int) (k0 : Nat) (x : Int) (k : Nat) (acc : List Part) : Prop where
  kl : k < l.length
  n : ∃ w : Nat, acc.length + k0 = w * l.length + k ∧ ∃ h, x + ride = base + day * w + h ∧ (x ≤ q → (l[k]'kl).p ≤ h ∧ h ≤ (l[k]'kl).q)
  eb : ∃ j, base = day * j
  cov : Cov p acc x
  tel : ∀ z ∈ acc, ∀ m, z.p ≤ m → m ≤ z.q → val z m = G (m + ride)
  le : x ≤ q + 1
theorem ca_hour {day : Int} {G : Int → Int} {l : List Part} {p q ride base x : Int} {k0 k : Nat} {acc : List Part} (f : FOk day G) (cl : Cov 0 l day) (c : Ca day G l p q ride base k0 x k acc) (hx : x ≤ q) :
    (l[k]'c.kl).p ≤ (x + ride) % day ∧ (x + ride) % day ≤ (l[k]'c.kl).q ∧ ∃ w : Nat, acc.length + k0 = w * l.length + k ∧ x + ride - (x + ride) % day = base + day * w := by
  obtain ⟨w, hn, h, e, hh⟩ := c.n
  obtain ⟨h1, h2⟩ := hh hx
  obtain ⟨a, b, d, _⟩ := cov_at cl c.kl
  obtain ⟨j, hj⟩ := c.eb
  have m : (x + ride) % day = h := mod_at (k := j + w) (by omega) (by omega) (by rw [e, hj, Int.mul_add]; omega)
  rw [m]
  exact ⟨h1, h2, w, hn, by omega⟩
theorem ca_step {day : Int} {G : Int → Int} {l : List Part} {p q ride base x : Int} {k0 k : Nat} {acc : List Part} (f : FOk day G) (cl : Cov 0 l day) (tl : Tel G l) (pq : q < p + day) (hb : p + ride < base + day) (hk0 : k0 ≤ l.length) (c : Ca day G l p q ride base k0 x k acc) (hx : x ≤ q) (L : Int)
    (hL : L = if (x + ride - (x + ride) % day + (l[k]'c.kl).q - ride) < q then (x + ride - (x + ride) % day + (l[k]'c.kl).q - ride) else q) :
    x ≤ L ∧ acc.length ≤ 2 * l.length ∧ Ca day G l p q ride base k0 (L + 1) (if k + 1 = l.length then 0 else k + 1) (acc ++ [⟨x, L, (l[k]'c.kl).s, if (l[k]'c.kl).s = true then x + ride - (x + ride) % day + (l[k]'c.kl).v else ride + (l[k]'c.kl).v⟩]) := by
  obtain ⟨h1, h2, w, hn, e⟩ := ca_hour f cl c hx
  obtain ⟨a, b, d, z0, zl, zn⟩ := cov_at cl c.kl
  have m0 := Int.emod_nonneg (x + ride) (b := day) (by have := f.pos; omega)
  have tk := tl _ (List.getElem_mem c.kl)
  have hk := c.kl
  have hw : w ≤ 1 := by
    rcases Nat.lt_or_ge w 2 with z | z
    · omega
    · have : day * 2 ≤ day * w := Int.mul_le_mul_of_nonneg_left (by omega) (by have := f.pos; omega)
      omega
  have hlen : acc.length ≤ 2 * l.length := by
    have : w * l.length ≤ 1 * l.length := Nat.mul_le_mul_right _ hw
    omega
  generalize hH : (x + ride) % day = hr at *
  have xL : x ≤ L := by rw [hL]; split <;> omega
  have Lq : L ≤ q := by rw [hL]; split <;> omega
  have Lb : L ≤ x + ride - hr + (l[k]'c.kl).q - ride := by rw [hL]; split <;> omega
  refine ⟨xL, hlen, ?_⟩
  refine ⟨?_, ?_, c.eb, cov_app c.cov ⟨rfl, xL, rfl⟩, ?_, by omega⟩
  · split <;> omega
  · have L2 : L + 1 ≤ q → L = x + ride - hr + (l[k]'c.kl).q - ride := by
      rw [hL]; split <;> omega
    by_cases q1 : k + 1 = l.length
    · have zl := zl q1
      refine ⟨w + 1, ?_, L + 1 + ride - (base + day * ((w + 1 : Nat) : Int)), by omega, fun hq => ?_⟩
      · rw [List.length_append, List.length_singleton, if_pos q1, Nat.add_mul]; omega
      · have := L2 hq
        have e3 : day * ((w + 1 : Nat) : Int) = day * w + day := by rw [show ((w + 1 : Nat) : Int) = (w : Int) + 1 by omega, Int.mul_add, Int.mul_one]
        have c0 : 0 < l.length := by omega
        obtain ⟨a', b', d', z0', _⟩ := cov_at cl c0
        have z0' := z0' rfl
        simp only [if_pos q1]
        omega
    · have zn := zn (by omega)
      refine ⟨w, ?_, L + 1 + ride - (base + day * w), by omega, fun hq => ?_⟩
      · rw [List.length_append, List.length_singleton, if_neg q1]; omega
      · have := L2 hq
        obtain ⟨a', b', d', _⟩ := cov_at (k := k + 1) cl (by omega)
        simp only [if_neg q1]
        omega
  · intro z hz m m1 m2
    rcases List.mem_append.mp hz with hz | hz
    · exact c.tel z hz m m1 m2
    · rw [List.mem_singleton.mp hz] at m1 m2 ⊢
      have m1 : x ≤ m := m1
      have m2 : m ≤ L := m2
      have t := tk (m + ride - (x + ride - hr)) (by omega) (by omega)
      obtain ⟨j, hj⟩ := c.eb
      have pz := f.perZ (m + ride - (x + ride - hr)) (j + w)
      have ee : m + ride - (x + ride - hr) + day * (j + w) = m + ride := by rw [Int.mul_add, ← hj]; omega
      rw [ee] at pz
      rw [pz, ← t]
      have e2 : day * (j + w) = x + ride - hr := by rw [Int.mul_add, ← hj]; omega
      rw [e2]
      unfold val
      dsimp only
      cases (l[k]'c.kl).s
      · simp only [Bool.false_eq_true, if_false]; omega
      · simp only [if_true]; omega
end PL
namespace PL
open PySem PySem.Spec L2
/-! ### how many windows a clock has -/
theorem sub_len : ∀ (l S : List Int), l.Pairwise (· < ·) → (∀ x ∈ l, x ∈ S) → l.length ≤ S.length
  | [], S, _, _ => Nat.zero_le _
  | a :: l, S, p, h => by
    cases p with
    | cons p1 p2 =>
      have ha := h a List.mem_cons_self
      have ih := sub_len l (S.erase a) p2 fun x hx => (List.mem_erase_of_ne (by have := p1 x hx; omega)).mpr (h x (List.mem_cons_of_mem _ hx))
      have e := List.length_erase_of_mem ha
      have := List.length_pos_of_mem ha
      rw [List.length_cons]
      omega
/-- where a window of what F tells may begin -/
def Beg (F : Int → Int) (x : Int) : Prop := F (x - 1) + 2 ≤ F x ∨ (F (x - 1) = F x ∧ F x < F (x + 1))
def Few (day : Int) (F : Int → Int) (S : List Int) : Prop := ∀ x, 0 < x → x < day → Beg F x → x ∈ S
theorem beg_pick {day : Int} {F G : Int → Int} (f : FOk day F) (g : FOk day G) {x : Int} (h : Beg (fun t => pick true (F t) (G t)) x) : Beg F x ∨ Beg G x := by
  have f1 := f.mono (x - 1) x (by omega)
  have f2 := f.mono x (x + 1) (by omega)
  have g1 := g.mono (x - 1) x (by omega)
  have g2 := g.mono x (x + 1) (by omega)
  unfold Beg at h ⊢
  unfold pick at h
  simp only [if_true] at h
  generalize F (x - 1) = a at *
  generalize F x = b at *
  generalize F (x + 1) = c at *
  generalize G (x - 1) = a' at *
  generalize G x = b' at *
  generalize G (x + 1) = c' at *
  by_cases q1 : a' < a <;> by_cases q2 : b' < b <;> by_cases q3 : c' < c <;> simp only [q1, q2, q3, if_true, if_false] at h <;> omega
theorem few_pick {day : Int} {F G : Int → Int} {S T : List Int} (f : FOk day F) (g : FOk day G) (s : Few day F S) (t : Few day G T) : Few day (fun t => pick true (F t) (G t)) (S ++ T) := fun x h0 h1 b => by
  rcases beg_pick f g b with q | q
  · exact List.mem_append_left _ (s x h0 h1 q)
  · exact List.mem_append_right _ (t x h0 h1 q)
theorem chn_fol : ∀ {l : List Win}, chn l = true → (∀ w ∈ l, w.1 ≤ w.2.1) → ∀ v ∈ l, ∀ w ∈ l, v.2.1 + 1 = w.1 → fol v w = true
  | [], _, _, v, hv, _, _, _ => by cases hv
  | u :: l, c, g, v, hv, w, hw, e => by
    have gl : ∀ w ∈ l, w.1 ≤ w.2.1 := fun w hw => g w (List.mem_cons_of_mem _ hw)
    have b := bef_all gl c
    have gv := g v hv
    rcases List.mem_cons.mp hv with rfl | hv1
    · rcases List.mem_cons.mp hw with rfl | hw
      · omega
      · cases l with
        | nil => cases hw
        | cons t l =>
          have cx : (fol v t && chn (t :: l)) = true := c
          rcases List.mem_cons.mp hw with rfl | hw'
          · exact (Bool.and_eq_true _ _ ▸ cx).1
          · have b2 := bef_all (fun w hw => gl w (List.mem_cons_of_mem _ hw)) (chn_tail c) w hw'
            have := (b t List.mem_cons_self).1
            have := gl t List.mem_cons_self
            have := b2.1
            omega
    · rcases List.mem_cons.mp hw with rfl | hw
      · have := (b v hv1).1
        have := g w List.mem_cons_self
        omega
      · exact chn_fol (chn_tail c) gl v hv1 w hw e
theorem IsClock.beg {day : Int} {R : List Win} {F : Int → Int} (k : IsClock day R F) {w : Win} (hw : w ∈ R) (h0 : 0 < w.1) : Beg F w.1 := by
  have f := k.ok
  obtain ⟨a, b, d, _⟩ := k.clk.good w hw
  have dw : Dep day R w.1 (w.1 + w.2.2) := ⟨w, hw, by rw [Int.emod_eq_of_lt (by omega) (by omega)]; exact ⟨Int.le_refl _, b⟩, rfl⟩
  obtain ⟨e1, e2⟩ := k.dep.mp dw
  have m1 := f.mono (w.1 - 1) w.1 (by omega)
  have e9 : w.1 - 1 + 1 = w.1 := by omega
  rcases (by omega : F (w.1 - 1) = F w.1 ∨ F (w.1 - 1) < F w.1) with q | q
  · exact .inr ⟨q, e2⟩
  · obtain ⟨v, hv, o, ev⟩ := k.dep.mpr ⟨rfl, (by rw [e9]; exact q : F (w.1 - 1) < F (w.1 - 1 + 1))⟩
    rw [Int.emod_eq_of_lt (by omega) (by omega)] at o
    have hvb : v.2.1 + 1 = w.1 := by
      rcases pair_or k.clk.pair v hv w hw with rfl | h | h
      · omega
      · have := h.1; omega
      · have := h.1; omega
    have fo := chn_fol k.clk.chn (fun w hw => (k.clk.good w hw).2.1) v hv w hw hvb
    left
    unfold fol at fo
    split at fo
    · cases fo
    · rw [if_neg (by omega)] at fo
      have := of_decide_eq_true fo
      omega
theorem few_len {day : Int} {R : List Win} {F : Int → Int} {S : List Int} (k : IsClock day R F) (s : Few day F S) : R.length ≤ S.length + 1 := by
  cases R with
  | nil => exact Nat.zero_le _
  | cons u l =>
    have p := k.clk.pair
    have gu := k.clk.good u List.mem_cons_self
    cases p with
    | cons p1 p2 =>
      have h := sub_len (l.map (·.1)) S (by
        rw [List.pairwise_map]
        refine List.Pairwise.imp_of_mem ?_ p2
        intro a b ha hb h
        have := (k.clk.good a (List.mem_cons_of_mem _ ha)).2.1
        have := h.1
        omega) (by
        intro x hx
        obtain ⟨w, hw, rfl⟩ := List.mem_map.mp hx
        have h1 := (p1 w hw).1
        have g := gu.1
        have g1 := gu.2.1
        have hw' : w ∈ u :: l := List.mem_cons_of_mem _ hw
        have d := (k.clk.good w hw').2.2.1
        have d1 := (k.clk.good w hw').2.1
        exact s w.1 (by omega) (by omega) (k.beg hw' (by omega)))
      rw [List.length_map] at h
      rw [List.length_cons]
      omega
theorem clk_one {day : Int} {w : Win} (g : Good day w) : Clk day [w] where
  good := fun v hv => by rw [List.mem_singleton.mp hv]; exact g
  ok := by
    obtain ⟨a, b, c, d⟩ := g
    rw [clk_eq (by simp)]
    simp [PL.chn]
    omega
theorem one_at {day : Int} {w : Win} (g : Good day w) (t : Int) : cF day [w] t = nextOpen day w.1 w.2.1 t + w.2.2 :=
  (min_cF (clk_one g) (by simp) ⟨⟨w, List.mem_singleton_self _, rfl⟩, fun v hv => by rw [List.mem_singleton.mp hv]; exact Int.le_refl _⟩).symm
theorem few_one {day : Int} {w : Win} (g : Good day w) : Few day (cF day [w]) [w.1, w.2.1 + 1] := fun x h0 h1 b => by
  have f := cF_ok (clk_one g) (by simp)
  have e0 := one_at g (x - 1)
  have e1 := one_at g x
  have e2 := one_at g (x + 1)
  have per := f.per 0
  have z := one_at g 0
  obtain ⟨a, b', c, d⟩ := g
  unfold nextOpen at e0 e1 e2 z
  rw [Int.emod_eq_of_lt (by omega) (by omega)] at e0 e1 z
  rw [Int.zero_add] at per
  rw [List.mem_cons, List.mem_cons]
  unfold Beg at b
  rcases (by omega : x + 1 < day ∨ x + 1 = day) with q | q
  · rw [Int.emod_eq_of_lt (by omega) (by omega)] at e2
    split at e0 <;> split at e1 <;> split at e2 <;> omega
  · rw [q] at b
    split at e0 <;> split at e1 <;> split at z <;> omega
/-! ### the clock of a board -/
def BrdR (day : Int) (l R : List Win) : Prop := (l = [] → R = []) ∧ (l ≠ [] → ∃ F, IsClock day R F ∧ ∀ t, MinCome day l t (F t))
structure Brd (day : Int) (l R : List Win) : Prop where
  nil : l = [] → R = []
  tell : l ≠ [] → ∃ F, IsClock day R F ∧ (∀ t, MinCome day l t (F t)) ∧ ∃ S : List Int, S.length = 2 * l.length ∧ Few day F S
theorem Brd.r {day : Int} {l R : List Win} (b : Brd day l R) : BrdR day l R := ⟨b.nil, fun h => by obtain ⟨F, a, c, _⟩ := b.tell h; exact ⟨F, a, c⟩⟩
theorem Brd.clk {day : Int} {l R : List Win} (b : Brd day l R) : Clk day R := by
  by_cases h : l = []
  · rw [b.nil h]; exact clk_nil day
  · obtain ⟨F, a, _⟩ := b.tell h; exact a.clk
theorem BrdR.clk {day : Int} {l R : List Win} (b : BrdR day l R) : Clk day R := by
  by_cases h : l = []
  · rw [b.1 h]; exact clk_nil day
  · obtain ⟨F, a, _⟩ := b.2 h; exact a.clk
theorem Brd.len {day : Int} {l R : List Win} (b : Brd day l R) : R.length ≤ 2 * l.length + 1 := by
  by_cases h : l = []
  · rw [b.nil h]; exact Nat.zero_le _
  · obtain ⟨F, a, _, S, e, s⟩ := b.tell h
    have := few_len a s
    omega
theorem brd_nil (day : Int) : Brd day [] [] := ⟨fun _ => rfl, fun h => absurd rfl h⟩
theorem one_min {day : Int} {w : Win} (g : Good day w) (t : Int) : MinCome day [w] t (cF day [w] t) :=
  ⟨⟨w, List.mem_singleton_self _, one_at g t⟩, fun v hv => by rw [List.mem_singleton.mp hv, one_at g]; exact Int.le_refl _⟩
theorem brd_step {day : Int} {l R R' : List Win} {w : Win} (b : Brd day l R) (g : Good day w) (s : SoonR day R [w] R') : Brd day (l ++ [w]) R' := by
  refine ⟨fun h => by simp at h, fun _ => ?_⟩
  have c := clk_one g
  by_cases h : l = []
  · subst h
    rw [b.nil rfl] at s
    rw [s.1 rfl]
    exact ⟨_, IsClock.of c (by simp), one_min g, _, rfl, few_one g⟩
  · obtain ⟨F, a, m, S, e, fw⟩ := b.tell h
    have k := s.2.2 a.ne (by simp)
    rw [a.tellF] at k
    refine ⟨_, k, fun t => min_app (m t) (one_min g t), S ++ [w.1, w.2.1 + 1], ?_, few_pick a.ok (cF_ok c (by simp)) fw (few_one g)⟩
    rw [List.length_append, List.length_append, e]
    simp only [List.length_cons, List.length_nil]
    omega
theorem BrdR.uni {day : Int} {l m R R' : List Win} (h : BrdR day l R) (h' : BrdR day m R') (e : ∀ t y, MinCome day l t y ↔ MinCome day m t y) (en : l = [] ↔ m = []) : R = R' := by
  by_cases q : l = []
  · rw [h.1 q, h'.1 (en.mp q)]
  · obtain ⟨F, a, f⟩ := h.2 q
    obtain ⟨G, b, g⟩ := h'.2 fun z => q (en.mpr z)
    have : F = G := funext fun t => min_uni ((e t _).mp (f t)) (g t)
    subst this
    exact a.uni b
theorem BrdR.nil_iff {day : Int} {l R : List Win} (h : BrdR day l R) : R = [] ↔ l = [] := by
  by_cases q : l = []
  · rw [h.1 q]; exact ⟨fun _ => q, fun _ => rfl⟩
  · obtain ⟨F, a, _⟩ := h.2 q
    exact ⟨fun z => absurd z a.ne, fun z => absurd z q⟩
theorem BrdR.min {day t y : Int} {l R : List Win} (h : BrdR day l R) (m : MinCome day l t y) : R ≠ [] ∧ y = cF day R t := by
  obtain ⟨F, a, f⟩ := h.2 (min_ne m)
  exact ⟨a.ne, by rw [a.tellF]; exact min_uni m (f t)⟩
theorem board_ok {day : Int} {l : List Win} (h : ∀ w ∈ l, Good day w) : isBoard day (.list (l.map wd)) = true := by
  unfold isBoard
  simp only [List.all_eq_true, List.mem_map]
  rintro d ⟨w, hw, rfl⟩
  exact isWin_wd.mpr (h w hw)
theorem good_snoc {day : Int} {l : List Win} {w : Win} (h : ∀ w ∈ l, Good day w) (g : Good day w) : ∀ v ∈ l ++ [w], Good day v := fun v hv => by
  rcases List.mem_append.mp hv with q | q
  · exact h v q
  · rw [List.mem_singleton.mp q]; exact g
theorem allWd_one (w : Win) : AllWd [wd w] = True := eq_true ⟨[w], rfl⟩
end PL
namespace PL
open PySem PySem.Spec L2
/-! ### what clocks tell, with never -/
def oF (day : Int) (l : List Win) : Option (Int → Int) := if l = [] then none else some (cF day l)
def opO (soon : Bool) (a b : Option (Int → Int)) : Option (Int → Int) := match a, b with
  | some f, some g => some fun t => pick soon (f t) (g t)
  | some f, none => if soon = true then some f else none
  | none, some g => if soon = true then some g else none
  | none, none => none
def opB (a b : Option (Int → Int)) : Option (Int → Int) := match a, b with
  | some f, some g => some fun t => g (f t)
  | _, _ => none
def OOk (day : Int) (a : Option (Int → Int)) : Prop := ∀ f, a = some f → FOk day f
theorem oF_nil (day : Int) : oF day [] = none := if_pos rfl
theorem oF_ne {day : Int} {l : List Win} (h : l ≠ []) : oF day l = some (cF day l) := if_neg h
theorem oF_ok {day : Int} {l : List Win} (c : Clk day l) : OOk day (oF day l) := fun f e => by
  by_cases h : l = []
  · subst h; rw [oF_nil] at e; cases e
  · rw [oF_ne h] at e; cases e; exact cF_ok c h
theorem oF_inj {day : Int} {l m : List Win} (c : Clk day l) (d : Clk day m) (e : oF day l = oF day m) : l = m := by
  by_cases h : l = []
  · by_cases g : m = []
    · rw [h, g]
    · rw [h, oF_nil, oF_ne g] at e; cases e
  · by_cases g : m = []
    · rw [g, oF_nil, oF_ne h] at e; cases e
    · rw [oF_ne h, oF_ne g] at e
      have e := Option.some.inj e
      have k := IsClock.of c h
      rw [e] at k
      exact k.uni (IsClock.of d g)
theorem SoonR.oF {day : Int} {l m R : List Win} (s : SoonR day l m R) : PL.oF day R = opO true (PL.oF day l) (PL.oF day m) := by
  by_cases h : l = []
  · rw [s.1 h, h, oF_nil]
    cases PL.oF day m <;> rfl
  · by_cases g : m = []
    · rw [s.2.1 g, g, oF_nil]
      cases PL.oF day l <;> rfl
    · have k := s.2.2 h g
      rw [oF_ne h, oF_ne g, oF_ne k.ne, k.tellF]
      rfl
theorem LateR.oF {day : Int} {l m R : List Win} (s : LateR day l m R) : PL.oF day R = opO false (PL.oF day l) (PL.oF day m) := by
  by_cases h : l = []
  · rw [s.1 (.inl h), h, oF_nil]
    cases PL.oF day m <;> rfl
  · by_cases g : m = []
    · rw [s.1 (.inr g), g, oF_nil]
      cases PL.oF day l <;> rfl
    · have k := s.2 h g
      rw [oF_ne h, oF_ne g, oF_ne k.ne, k.tellF]
      rfl
theorem BehR.oF {day : Int} {l m R : List Win} (s : BehR day l m R) : PL.oF day R = opB (PL.oF day l) (PL.oF day m) := by
  by_cases h : l = []
  · rw [s.1 (.inl h), h, oF_nil]
    cases PL.oF day m <;> rfl
  · by_cases g : m = []
    · rw [s.1 (.inr g), g, oF_nil]
      cases PL.oF day l <;> rfl
    · have k := s.2 h g
      rw [oF_ne h, oF_ne g, oF_ne k.ne, k.tellF]
      rfl
theorem pick_t (a b : Int) : pick true a b = min a b := by
  unfold pick
  rw [if_pos rfl]
  split <;> omega
theorem pick_f (a b : Int) : pick false a b = max a b := by
  unfold pick
  rw [if_neg (by decide)]
  split <;> omega
theorem opO_comm (s : Bool) (a b : Option (Int → Int)) : opO s a b = opO s b a := by
  rcases a with _ | f <;> rcases b with _ | g <;> cases s <;> first | rfl | (refine congrArg some (funext fun t => ?_); simp only [pick_t, pick_f]; omega)
theorem opO_self (s : Bool) (a : Option (Int → Int)) : opO s a a = a := by
  rcases a with _ | f <;> cases s <;> first | rfl | (refine congrArg some (funext fun t => ?_); simp only [pick_t, pick_f]; omega)
theorem opO_assoc (s : Bool) (a b c : Option (Int → Int)) : opO s (opO s a b) c = opO s a (opO s b c) := by
  rcases a with _ | f <;> rcases b with _ | g <;> rcases c with _ | h <;> cases s <;> first | rfl | (refine congrArg some (funext fun t => ?_); simp only [pick_t, pick_f]; omega)
theorem opO_dist (s : Bool) (a b c : Option (Int → Int)) : opO s a (opO (!s) b c) = opO (!s) (opO s a b) (opO s a c) := by
  rcases a with _ | f <;> rcases b with _ | g <;> rcases c with _ | h <;> cases s <;> first | rfl | (refine congrArg some (funext fun t => ?_); simp only [pick_t, pick_f, Bool.not_true, Bool.not_false]; omega)
theorem opO_abs (s : Bool) (a b : Option (Int → Int)) : opO s a (opO (!s) a b) = a := by
  rcases a with _ | f <;> rcases b with _ | g <;> cases s <;> first | rfl | (refine congrArg some (funext fun t => ?_); simp only [pick_t, pick_f, Bool.not_true, Bool.not_false]; omega)
theorem opB_left {day : Int} (s : Bool) (a b c : Option (Int → Int)) (k : OOk day c) : opB (opO s a b) c = opO s (opB a c) (opB b c) := by
  rcases c with _ | h
  · rcases a with _ | f <;> rcases b with _ | g <;> cases s <;> rfl
  · have mo := (k h rfl).mono
    rcases a with _ | f <;> rcases b with _ | g <;> cases s <;> first | rfl | (refine congrArg some (funext fun t => ?_))
    · have m1 := mo (f t) (g t)
      have m2 := mo (g t) (f t)
      simp only [pick_f]
      rcases Int.le_total (f t) (g t) with q | q
      · rw [Int.max_eq_right q]; have := m1 q; omega
      · rw [Int.max_eq_left q]; have := m2 q; omega
    · have m1 := mo (f t) (g t)
      have m2 := mo (g t) (f t)
      simp only [pick_t]
      rcases Int.le_total (f t) (g t) with q | q
      · rw [Int.min_eq_left q]; have := m1 q; omega
      · rw [Int.min_eq_right q]; have := m2 q; omega
theorem opB_right (s : Bool) (a b c : Option (Int → Int)) : opB c (opO s a b) = opO s (opB c a) (opB c b) := by
  rcases a with _ | f <;> rcases b with _ | g <;> rcases c with _ | h <;> cases s <;> rfl
theorem opB_assoc (a b c : Option (Int → Int)) : opB (opB a b) c = opB a (opB b c) := by
  rcases a with _ | f <;> rcases b with _ | g <;> rcases c with _ | h <;> rfl
def OfR (day : Int) (s : Bool) (l m R : List Win) : Prop := Clk day R ∧ oF day R = opO s (oF day l) (oF day m)
def BhR (day : Int) (l m R : List Win) : Prop := Clk day R ∧ oF day R = opB (oF day l) (oF day m)
theorem SoonR.of {day : Int} {l m R : List Win} (s : SoonR day l m R) (c : Clk day l) (d : Clk day m) : OfR day true l m R := ⟨s.clk c d, s.oF⟩
theorem LateR.of {day : Int} {l m R : List Win} (s : LateR day l m R) : OfR day false l m R := ⟨s.clk, s.oF⟩
theorem BehR.of {day : Int} {l m R : List Win} (s : BehR day l m R) : BhR day l m R := ⟨s.clk, s.oF⟩
theorem oF_still {day : Int} (h : 1 ≤ day) : oF day [(0, day - 1, 0)] = some fun t => t := by
  rw [oF_ne (by simp)]
  refine congrArg some (funext fun t => ?_)
  unfold cF
  rw [setOff_stand h]
  rfl
theorem opB_still1 (b : Option (Int → Int)) : opB (some fun t => t) b = b := by rcases b with _ | f <;> rfl
theorem opB_still2 (b : Option (Int → Int)) : opB b (some fun t => t) = b := by rcases b with _ | f <;> rfl
/-! ### lengths of pieces -/
theorem cutL_len (ns : List Int) (a b : Int) (h0 : 0 ≤ a) (h1 : a ≤ b) : ((cutL ns (some a) (some b)).length : Int) ≤ b - a := by
  unfold cutL HT.sIx
  rw [List.length_take]
  simp only [if_neg (show ¬ a < 0 by omega), if_neg (show ¬ b < 0 by omega)]
  omega
theorem eqv_lll (l m n l' m' n' : List Win) : PyData.eqv (.list [.list (l.map wd), .list (m.map wd), .list (n.map wd)]) (.list [.list (l'.map wd), .list (m'.map wd), .list (n'.map wd)]) = (decide (l = l') && (decide (m = m') && decide (n = n'))) := by
  simp only [PyData.eqv, PyData.eqvAll]
  rw [eqvAll_wd, eqvAll_wd, eqvAll_wd, Bool.and_true]
theorem shaped_lll (l m n : List Win) : SeqAt.shaped (.list [.list (l.map wd), .list (m.map wd), .list (n.map wd)]) = true := by
  have a := lay_cd l
  have b := lay_cd m
  have e := lay_cd n
  have c := depth_cd l
  have d := depth_cd m
  have f := depth_cd n
  unfold SeqAt.shaped
  rw [PyData.canLay0, PyData.canLayAll0, PyData.canLayAll0, PyData.canLayAll0, PyData.canLayAll0, PyData.canLay0, PyData.canLay0, PyData.canLay0, a, b, e, Bool.true_and, Bool.true_and, Bool.true_and, Bool.true_and]
  refine decide_eq_true ?_
  rw [PyData.depth, PyData.depthAll, PyData.depthAll, PyData.depthAll, PyData.depthAll, PyData.depth, PyData.depth, PyData.depth]
  generalize PyData.depthAll (l.map wd) = x at *
  generalize PyData.depthAll (m.map wd) = y at *
  generalize PyData.depthAll (n.map wd) = z at *
  have : max (x + 1) (max (y + 1) (max (z + 1) 0)) ≤ 3 := by omega
  omega
end PL
namespace PL
open PySem PySem.Spec L2
/-! ### range in threes -/
theorem rgc3 {i j : Int} (h0 : 0 ≤ i) (h1 : i < 1000000) (h2 : -1000000 < j) (h3 : j < 1000000) : ∃ n : Nat, RgC i j 3 n ∧ (n : Int) ≤ max (j - i) 0 ∧ ∀ k : Nat, k < n → i + (k : Int) * 3 < j := by
  have e : Builtin.Range.rangeSize i j 3 = if i < j then (j - i - 1) / 3 + 1 else 0 := by
    unfold Builtin.Range.rangeSize
    rw [if_pos (by decide)]
  have b0 : 0 ≤ (if i < j then (j - i - 1) / 3 + 1 else 0) := by split <;> omega
  refine ⟨(if i < j then (j - i - 1) / 3 + 1 else 0).toNat, ⟨by decide, by decide, ?_, by rw [e, Int.toNat_of_nonneg b0]⟩, ?_, ?_⟩
  · unfold Builtin.Range.small
    rw [e]
    simp only [Builtin.Range.rangeFitsLong, Bool.and_eq_true, Bool.or_eq_true, decide_eq_true_eq, beq_iff_eq, show (3 : Int) > 0 by decide, if_true]
    split <;> omega
  · rw [Int.toNat_of_nonneg b0]
    split <;> omega
  · intro k hk
    split at hk <;> omega
theorem rng3_ints (lo c : Int) (n : Nat) : rng3 lo c n = ((List.range n).map fun (k : Nat) => lo + (k : Int) * c).map fun x => ((.un, .int x) : Sl) := by
  unfold rng3
  rw [List.map_map]
  rfl
/-! ### the longest wait -/
structure LongR (F : Int → Int) (p w : Int) (t : Int) : Prop where
  p0 : 0 ≤ p
  p1 : p < t
  at_ : F p = p + w
  top : ∀ x, 0 ≤ x → x < t → F x ≤ x + w
  less : ∀ x, 0 ≤ x → x < p → F x < x + w
def wt (x : Part) : Int := if x.s = true then x.v - x.p else x.v
theorem wt_top {x : Part} {F : Int → Int} (h : ∀ m, x.p ≤ m → m ≤ x.q → val x m = F m) (le : x.p ≤ x.q) : F x.p = x.p + wt x ∧ ∀ m, x.p ≤ m → m ≤ x.q → F m ≤ m + wt x := by
  refine ⟨?_, fun m h1 h2 => ?_⟩
  · rw [← h x.p (by omega) le]
    unfold val wt
    split <;> omega
  · rw [← h m h1 h2]
    unfold val wt
    split <;> omega
theorem long_first {x : Part} {F : Int → Int} (h : ∀ m, x.p ≤ m → m ≤ x.q → val x m = F m) (le : x.p ≤ x.q) (e : x.p = 0) : LongR F x.p (wt x) (x.q + 1) := by
  obtain ⟨a, b⟩ := wt_top h le
  exact ⟨by omega, by omega, a, fun y h1 h2 => b y (by omega) (by omega), fun y h1 h2 => by omega⟩
theorem long_more {x : Part} {F : Int → Int} {p w : Int} (h : ∀ m, x.p ≤ m → m ≤ x.q → val x m = F m) (le : x.p ≤ x.q) (l : LongR F p w x.p) (g : wt x > w) : LongR F x.p (wt x) (x.q + 1) := by
  obtain ⟨a, b⟩ := wt_top h le
  refine ⟨by have := l.p0; have := l.p1; omega, by omega, a, fun y h1 h2 => ?_, fun y h1 h2 => ?_⟩
  · rcases Int.lt_or_le y x.p with q | q
    · have := l.top y h1 q; omega
    · exact b y q (by omega)
  · have := l.top y h1 h2; omega
theorem long_same {x : Part} {F : Int → Int} {p w : Int} (h : ∀ m, x.p ≤ m → m ≤ x.q → val x m = F m) (le : x.p ≤ x.q) (l : LongR F p w x.p) (g : ¬ wt x > w) : LongR F p w (x.q + 1) := by
  obtain ⟨a, b⟩ := wt_top h le
  refine ⟨l.p0, by have := l.p1; omega, l.at_, fun y h1 h2 => ?_, l.less⟩
  rcases Int.lt_or_le y x.p with q | q
  · exact l.top y h1 q
  · have := b y q (by omega); omega
theorem LongR.all {day : Int} {F : Int → Int} {p w : Int} (f : FOk day F) (l : LongR F p w day) (t : Int) : F t ≤ t + w := by
  have m0 := Int.emod_nonneg t (b := day) (by have := f.pos; omega)
  have m1 := Int.emod_lt_of_pos t f.pos
  have e := Int.emod_add_mul_ediv t day
  have q := f.perZ (t % day) (t / day)
  rw [e] at q
  have := l.top _ m0 m1
  omega
theorem LongR.uni {F : Int → Int} {p w p' w' t : Int} (l : LongR F p w t) (l' : LongR F p' w' t) : w = w' := by
  have a := l.top p' l'.p0 l'.p1
  have b := l'.top p l.p0 l.p1
  have c := l.at_
  have d := l'.at_
  omega
theorem LongR.nn {day : Int} {F : Int → Int} {p w t : Int} (f : FOk day F) (l : LongR F p w t) : 0 ≤ w := by
  have := f.ge p
  have := l.at_
  omega
def WaitV (day : Int) (R : List Win) (T : PyData) : Prop := (R = [] ∧ T = .none) ∨ ∃ p w, R ≠ [] ∧ LongR (cF day R) p w day ∧ T = .int w
theorem WaitV.nil {day : Int} {R : List Win} {T : PyData} (v : WaitV day R T) (h : R = []) : T = .none := by
  rcases v with ⟨_, e⟩ | ⟨_, _, z, _⟩
  · exact e
  · exact absurd h z
theorem WaitV.int {day : Int} {R : List Win} {T : PyData} (v : WaitV day R T) (h : R ≠ []) : ∃ p w, LongR (cF day R) p w day ∧ T = .int w := by
  rcases v with ⟨z, e⟩ | ⟨p, w, _, l, e⟩
  · exact absurd z h
  · exact ⟨p, w, l, e⟩
theorem WaitV.uni {day : Int} {R : List Win} {T T' : PyData} (v : WaitV day R T) (v' : WaitV day R T') : T = T' := by
  by_cases h : R = []
  · rw [v.nil h, v'.nil h]
  · obtain ⟨p, w, l, e⟩ := v.int h
    obtain ⟨p', w', l', e'⟩ := v'.int h
    rw [e, e', l.uni l']
theorem WaitV.kind {day : Int} {R : List Win} {T : PyData} (v : WaitV day R T) : T = .none ∨ ∃ w, T = .int w := by
  rcases v with ⟨z, e⟩ | ⟨p, w, _, l, e⟩
  · exact .inl e
  · exact .inr ⟨w, e⟩
end PL
namespace PL
open PySem PySem.Spec L2
/-! ### sums of waits -/
def sumN (f : Int → Int) : Nat → Int
  | 0 => 0
  | n + 1 => sumN f n + f n
theorem sum_two {f g h k : Int → Int} : ∀ n : Nat, (∀ t : Int, f t + g t = h t + k t) → sumN f n + sumN g n = sumN h n + sumN k n
  | 0, _ => rfl
  | n + 1, e => by
    have ih := sum_two n e
    have := e n
    unfold sumN
    omega
theorem sum_go {f : Int → Int} {v : Int} {p : Nat} : ∀ n : Nat, (∀ m : Int, p ≤ m → m < p + n → f m = v) → sumN f (p + n) = sumN f p + n * v
  | 0, _ => by simp
  | n + 1, h => by
    have ih := sum_go n fun m h1 h2 => h m h1 (by omega)
    have := h ((p + n : Nat) : Int) (by omega) (by omega)
    show sumN f (p + n) + f ((p + n : Nat) : Int) = _
    rw [ih, this, show ((n + 1 : Nat) : Int) = (n : Int) + 1 by omega, Int.add_mul]
    omega
theorem sum_st {f : Int → Int} {v : Int} {p : Nat} : ∀ n : Nat, (∀ m : Int, p ≤ m → m < p + n → f m = v - m) → 2 * sumN f (p + n) = 2 * sumN f p + 2 * (n * v) - (2 * p + n - 1) * n
  | 0, _ => by simp
  | n + 1, h => by
    have ih := sum_st n fun m h1 h2 => h m h1 (by omega)
    have := h ((p + n : Nat) : Int) (by omega) (by omega)
    have e : sumN f (p + (n + 1)) = sumN f (p + n) + f ((p + n : Nat) : Int) := rfl
    rw [e, this, Int.mul_add, ih]
    have e2 : ((n + 1 : Nat) : Int) = (n : Int) + 1 := by omega
    have e3 : ((p + n : Nat) : Int) = (p : Int) + n := by omega
    rw [e2, e3]
    generalize (n : Int) = x
    generalize (p : Int) = y
    grind
/-- what a stretch adds -/
def addS (x : Part) : Int := if x.s = true then (x.q - x.p + 1) * x.v - (x.p + x.q) * (x.q - x.p + 1) / 2 else (x.q - x.p + 1) * x.v
theorem sum_part {x : Part} {F : Int → Int} (h : ∀ m, x.p ≤ m → m ≤ x.q → val x m = F m) (le : x.p ≤ x.q) (p0 : 0 ≤ x.p) :
    sumN (fun t => F t - t) (x.q + 1).toNat = sumN (fun t => F t - t) x.p.toNat + addS x := by
  obtain ⟨P, hP⟩ : ∃ P : Nat, x.p = P := ⟨x.p.toNat, by omega⟩
  obtain ⟨N, hN⟩ : ∃ N : Nat, x.q - x.p + 1 = N := ⟨(x.q - x.p + 1).toNat, by omega⟩
  have e1 : (x.q + 1).toNat = P + N := by omega
  have e2 : x.p.toNat = P := by omega
  rw [e1, e2]
  unfold addS
  rw [hN]
  by_cases hs : x.s = true
  · rw [if_pos hs]
    have q := sum_st (f := fun t => F t - t) (v := x.v) (p := P) N (fun m h1 h2 => by
      show F m - m = x.v - m
      rw [← h m (by omega) (by omega)]
      unfold val
      rw [if_pos hs])
    have e3 : x.p + x.q = 2 * (P : Int) + N - 1 := by omega
    rw [e3]
    generalize (2 * (P : Int) + N - 1) * N = A at *
    generalize (N : Int) * x.v = B at *
    omega
  · rw [if_neg hs]
    exact sum_go (f := fun t => F t - t) (v := x.v) (p := P) N (fun m h1 h2 => by
      show F m - m = x.v
      rw [← h m (by omega) (by omega)]
      unfold val
      rw [if_neg hs]
      omega)
def SumV (day : Int) (R : List Win) (T : PyData) : Prop := (R = [] ∧ T = .none) ∨ (R ≠ [] ∧ T = .int (sumN (fun t => cF day R t - t) day.toNat))
theorem SumV.nil {day : Int} {R : List Win} {T : PyData} (v : SumV day R T) (h : R = []) : T = .none := by
  rcases v with ⟨_, e⟩ | ⟨z, _⟩
  · exact e
  · exact absurd h z
theorem SumV.int {day : Int} {R : List Win} {T : PyData} (v : SumV day R T) (h : R ≠ []) : T = .int (sumN (fun t => cF day R t - t) day.toNat) := by
  rcases v with ⟨z, e⟩ | ⟨_, e⟩
  · exact absurd z h
  · exact e
theorem SumV.uni {day : Int} {R : List Win} {T T' : PyData} (v : SumV day R T) (v' : SumV day R T') : T = T' := by
  by_cases h : R = []
  · rw [v.nil h, v'.nil h]
  · rw [v.int h, v'.int h]
theorem SumV.kind {day : Int} {R : List Win} {T : PyData} (v : SumV day R T) : T = .none ∨ ∃ w, T = .int w := by
  rcases v with ⟨_, e⟩ | ⟨_, e⟩
  · exact .inl e
  · exact .inr ⟨_, e⟩
end PL
namespace PL
open PySem PySem.Spec L2
/-! ### sums of waits, piece by piece -/
def sumB (F : Int → Int) (p q : Int) : Int := sumN (fun t => F t - t) q.toNat - sumN (fun t => F t - t) p.toNat
theorem sumB_add (F : Int → Int) (p m q : Int) : sumB F p m + sumB F m q = sumB F p q := by unfold sumB; omega
theorem sumB_go {F : Int → Int} {p q v : Int} (p0 : 0 ≤ p) (pq : p ≤ q) (h : ∀ m, p ≤ m → m < q → F m = m + v) : sumB F p q = v * (q - p) := by
  obtain ⟨P, rfl⟩ : ∃ P : Nat, p = P := ⟨p.toNat, by omega⟩
  obtain ⟨N, hN⟩ : ∃ N : Nat, q - P = N := ⟨(q - P).toNat, by omega⟩
  have e1 : q.toNat = P + N := by omega
  have e2 : (P : Int).toNat = P := by omega
  unfold sumB
  rw [e1, e2, hN]
  have s := sum_go (f := fun t => F t - t) (v := v) (p := P) N (fun m h1 h2 => by
    show F m - m = v
    rw [h m (by omega) (by omega)]
    omega)
  rw [Int.mul_comm v]
  omega
theorem sumB_st {F : Int → Int} {p q v : Int} (p0 : 0 ≤ p) (pq : p ≤ q) (h : ∀ m, p ≤ m → m < q → F m = v) : sumB F p q = v * (q - p) - (p + q - 1) * (q - p) / 2 := by
  obtain ⟨P, rfl⟩ : ∃ P : Nat, p = P := ⟨p.toNat, by omega⟩
  obtain ⟨N, hN⟩ : ∃ N : Nat, q - P = N := ⟨(q - P).toNat, by omega⟩
  have e1 : q.toNat = P + N := by omega
  have e2 : (P : Int).toNat = P := by omega
  unfold sumB
  rw [e1, e2, hN]
  have s := sum_st (f := fun t => F t - t) (v := v) (p := P) N (fun m h1 h2 => by
    show F m - m = v - m
    rw [h m (by omega) (by omega)])
  have e3 : (P : Int) + q - 1 = 2 * (P : Int) + N - 1 := by omega
  rw [e3, Int.mul_comm v]
  generalize (2 * (P : Int) + N - 1) * N = A at *
  generalize (N : Int) * v = B at *
  omega
/-- open through a piece without ends of it, or shut through it -/
def Cut (p q : Int) (w : Win) : Prop := q ≤ w.1 ∨ (w.1 ≤ p ∧ q ≤ w.2.1 + 1) ∨ w.2.1 + 1 ≤ p
theorem cut_go {day p q : Int} {w : Win} (g : Good day w) (p0 : 0 ≤ p) (qd : q ≤ day) (c : Cut p q w) (h1 : w.1 ≤ p) (h2 : p ≤ w.2.1) {t : Int} (t0 : p ≤ t) (t1 : t < q) : nextOpen day w.1 w.2.1 t = t := by
  obtain ⟨a, b, d, _⟩ := g
  have e : t % day = t := Int.emod_eq_of_lt (by omega) (by omega)
  unfold nextOpen
  unfold Cut at c
  rw [e, if_neg (by omega), if_neg (by omega)]
theorem cut_st {day p q : Int} {w : Win} (g : Good day w) (p0 : 0 ≤ p) (qd : q ≤ day) (c : Cut p q w) (h : ¬ (w.1 ≤ p ∧ p ≤ w.2.1)) {t : Int} (t0 : p ≤ t) (t1 : t < q) : nextOpen day w.1 w.2.1 t = p + (w.1 - p) % day := by
  obtain ⟨a, b, d, _⟩ := g
  have e : t % day = t := Int.emod_eq_of_lt (by omega) (by omega)
  unfold nextOpen
  unfold Cut at c
  rw [e]
  rcases Int.lt_or_le p w.1 with z | z
  · rw [if_pos (by omega), Int.emod_eq_of_lt (by omega) (by omega)]
    omega
  · have z2 : w.2.1 < p := by
      rcases Int.lt_or_le w.2.1 p with y | y
      · exact y
      · exact absurd ⟨z, y⟩ h
    rw [if_neg (by omega), if_pos (by omega)]
    have e2 : (w.1 - p) % day = w.1 - p + day := by
      rw [← Int.add_emod_right, Int.emod_eq_of_lt (by omega) (by omega)]
    rw [e2]
    omega
/-- the windows of a piece, sorted into open ones and shut ones -/
structure PcI (day p q : Int) (l : List Win) (gs ss : List Int) : Prop where
  all : ∀ w ∈ l, (∃ g ∈ gs, ∀ t, p ≤ t → t < q → nextOpen day w.1 w.2.1 t + w.2.2 = t + g) ∨ (∃ s ∈ ss, ∀ t, p ≤ t → t < q → nextOpen day w.1 w.2.1 t + w.2.2 = s)
  gsI : ∀ g ∈ gs, ∃ w ∈ l, ∀ t, p ≤ t → t < q → nextOpen day w.1 w.2.1 t + w.2.2 = t + g
  ssI : ∀ s ∈ ss, ∃ w ∈ l, ∀ t, p ≤ t → t < q → nextOpen day w.1 w.2.1 t + w.2.2 = s
theorem PcI.nil (day p q : Int) : PcI day p q [] [] [] := ⟨fun _ h => (nomatch h), fun _ h => (nomatch h), fun _ h => (nomatch h)⟩
theorem PcI.go {day p q : Int} {l : List Win} {gs ss : List Int} (i : PcI day p q l gs ss) {w : Win} (h : ∀ t, p ≤ t → t < q → nextOpen day w.1 w.2.1 t = t) : PcI day p q (l ++ [w]) (gs ++ [w.2.2]) ss where
  all := fun v hv => by
    rcases List.mem_append.mp hv with hv | hv
    · rcases i.all v hv with ⟨g, hg, e⟩ | z
      · exact .inl ⟨g, List.mem_append_left _ hg, e⟩
      · exact .inr z
    · obtain rfl := List.mem_singleton.mp hv
      exact .inl ⟨v.2.2, List.mem_append_right _ List.mem_cons_self, fun t a b => by rw [h t a b]⟩
  gsI := fun g hg => by
    rcases List.mem_append.mp hg with hg | hg
    · obtain ⟨v, hv, e⟩ := i.gsI g hg
      exact ⟨v, List.mem_append_left _ hv, e⟩
    · obtain rfl := List.mem_singleton.mp hg
      exact ⟨w, List.mem_append_right _ List.mem_cons_self, fun t a b => by rw [h t a b]⟩
  ssI := fun s hs => by
    obtain ⟨v, hv, e⟩ := i.ssI s hs
    exact ⟨v, List.mem_append_left _ hv, e⟩
theorem PcI.st {day p q x : Int} {l : List Win} {gs ss : List Int} (i : PcI day p q l gs ss) {w : Win} (h : ∀ t, p ≤ t → t < q → nextOpen day w.1 w.2.1 t = x) : PcI day p q (l ++ [w]) gs (ss ++ [x + w.2.2]) where
  all := fun v hv => by
    rcases List.mem_append.mp hv with hv | hv
    · rcases i.all v hv with z | ⟨s, hs, e⟩
      · exact .inl z
      · exact .inr ⟨s, List.mem_append_left _ hs, e⟩
    · obtain rfl := List.mem_singleton.mp hv
      exact .inr ⟨x + v.2.2, List.mem_append_right _ List.mem_cons_self, fun t a b => by rw [h t a b]⟩
  gsI := fun g hg => by
    obtain ⟨v, hv, e⟩ := i.gsI g hg
    exact ⟨v, List.mem_append_left _ hv, e⟩
  ssI := fun s hs => by
    rcases List.mem_append.mp hs with hs | hs
    · obtain ⟨v, hv, e⟩ := i.ssI s hs
      exact ⟨v, List.mem_append_left _ hv, e⟩
    · obtain rfl := List.mem_singleton.mp hs
      exact ⟨w, List.mem_append_right _ List.mem_cons_self, fun t a b => by rw [h t a b]⟩
theorem PcI.min {day p q : Int} {l : List Win} {gs ss : List Int} (i : PcI day p q l gs ss) {t y : Int} (t0 : p ≤ t) (t1 : t < q) (m : MinCome day l t y) :
    (∀ g ∈ gs, y ≤ t + g) ∧ (∀ s ∈ ss, y ≤ s) ∧ ((∃ g ∈ gs, y = t + g) ∨ ∃ s ∈ ss, y = s) := by
  refine ⟨fun g hg => ?_, fun s hs => ?_, ?_⟩
  · obtain ⟨w, hw, e⟩ := i.gsI g hg
    rw [← e t t0 t1]; exact m.2 w hw
  · obtain ⟨w, hw, e⟩ := i.ssI s hs
    rw [← e t t0 t1]; exact m.2 w hw
  · obtain ⟨⟨w, hw, rfl⟩, _⟩ := m
    rcases i.all w hw with ⟨g, hg, e⟩ | ⟨s, hs, e⟩
    · exact .inl ⟨g, hg, e t t0 t1⟩
    · exact .inr ⟨s, hs, e t t0 t1⟩
def MinsR (day : Int) (l : List Win) (F : Int → Int) (p q : Int) : Prop := ∀ t, p ≤ t → t < q → MinCome day l t (F t)
section
variable {day p q : Int} {l : List Win} {gs ss : List Int} {F : Int → Int}
theorem pc_shut (i : PcI day p q l [] ss) (m : MinsR day l F p q) (p0 : 0 ≤ p) (pq : p ≤ q) {M : Int} (hm : M ∈ ss) (hu : ∀ y ∈ ss, M ≤ y) : sumB F p q = M * (q - p) - (p + q - 1) * (q - p) / 2 := by
  refine sumB_st p0 pq fun t a b => ?_
  obtain ⟨_, h2, h3⟩ := i.min a b (m t a b)
  rcases h3 with ⟨_, h, _⟩ | ⟨s, hs, e⟩
  · cases h
  · have := hu s hs
    have := h2 M hm
    omega
theorem pc_open (i : PcI day p q l gs ss) (m : MinsR day l F p q) (p0 : 0 ≤ p) (pq : p ≤ q) {r : Int} (hr : r ∈ gs) (hu : ∀ y ∈ gs, r ≤ y) (hs : ∀ s ∈ ss, q - 1 + r ≤ s) : sumB F p q = r * (q - p) := by
  refine sumB_go p0 pq fun t a b => ?_
  obtain ⟨h1, _, h3⟩ := i.min a b (m t a b)
  have := h1 r hr
  rcases h3 with ⟨g, hg, e⟩ | ⟨s, hs2, e⟩
  · have := hu g hg
    omega
  · have := hs s hs2
    omega
theorem pc_both (i : PcI day p q l gs ss) (m : MinsR day l F p q) (p0 : 0 ≤ p) (pq : p < q) {r M e : Int} (hr : r ∈ gs) (hu : ∀ y ∈ gs, r ≤ y) (hM : M ∈ ss) (hv : ∀ y ∈ ss, M ≤ y) (lt : M < q - 1 + r) (he : e = if M - r + 1 - p > 0 then M - r + 1 - p else 0) :
    sumB F p q = r * e + M * (q - (p + e)) - (p + e + q - 1) * (q - (p + e)) / 2 := by
  have e0 : 0 ≤ e := by rw [he]; split <;> omega
  have e1 : e < q - p := by rw [he]; split <;> omega
  rw [← sumB_add F p (p + e) q, sumB_go (v := r) p0 (by omega) fun t a b => ?_, sumB_st (v := M) (by omega) (by omega) fun t a b => ?_]
  · rw [show p + e - p = e by omega]
    generalize r * e = A
    generalize M * (q - (p + e)) = B
    omega
  · obtain ⟨h1, h2, h3⟩ := i.min (by omega) b (m t (by omega) b)
    have := h2 M hM
    rcases h3 with ⟨g, hg, e3⟩ | ⟨s, hs2, e3⟩
    · have := hu g hg
      have : M - r + 1 - p ≤ e := by rw [he]; split <;> omega
      omega
    · have := hv s hs2
      omega
  · obtain ⟨h1, h2, h3⟩ := i.min a (by omega) (m t a (by omega))
    have := h1 r hr
    rcases h3 with ⟨g, hg, e3⟩ | ⟨s, hs2, e3⟩
    · have := hu g hg
      omega
    · have := hv s hs2
      have : e = M - r + 1 - p := by
        rw [he] at b ⊢
        split at b <;> split <;> omega
      omega
end
theorem min_come {day t : Int} : ∀ {l : List Win}, l ≠ [] → ∃ y, MinCome day l t y
  | [], h => absurd rfl h
  | [w], _ => ⟨_, ⟨w, List.mem_cons_self, rfl⟩, fun v hv => by obtain rfl := List.mem_singleton.mp hv; exact Int.le_refl _⟩
  | w :: v :: r, _ => by
    obtain ⟨y, ⟨u, hu, e⟩, m⟩ := min_come (day := day) (t := t) (l := v :: r) (by simp)
    rcases Int.lt_or_le y (nextOpen day w.1 w.2.1 t + w.2.2) with z | z
    · refine ⟨y, ⟨u, List.mem_cons_of_mem _ hu, e⟩, fun x hx => ?_⟩
      rcases List.mem_cons.mp hx with rfl | hx
      · omega
      · exact m x hx
    · refine ⟨_, ⟨w, List.mem_cons_self, rfl⟩, fun x hx => ?_⟩
      rcases List.mem_cons.mp hx with rfl | hx
      · exact Int.le_refl _
      · have := m x hx; omega
/-- neighbours in a rising list have nothing of it between them -/
theorem rise_gap : ∀ {l : List Int}, l.Pairwise (· < ·) → ∀ {k : Nat} {x y z : Int}, l[k]? = some x → l[k + 1]? = some y → z ∈ l → z ≤ x ∨ y ≤ z
  | [], _, _, _, _, _, h, _, _ => by simp at h
  | a :: l, hp, 0, x, y, z, h1, h2, hz => by
    simp at h1
    subst h1
    obtain ⟨p1, p2⟩ := List.pairwise_cons.mp hp
    rcases List.mem_cons.mp hz with rfl | hz
    · exact .inl (Int.le_refl _)
    · right
      cases l with
      | nil => cases hz
      | cons b l =>
        simp at h2
        subst h2
        rcases List.mem_cons.mp hz with rfl | hz
        · exact Int.le_refl _
        · exact Int.le_of_lt ((List.pairwise_cons.mp p2).1 z hz)
  | a :: l, hp, k + 1, x, y, z, h1, h2, hz => by
    obtain ⟨p1, p2⟩ := List.pairwise_cons.mp hp
    simp only [List.getElem?_cons_succ] at h1 h2
    rcases List.mem_cons.mp hz with rfl | hz
    · exact .inl (Int.le_of_lt (p1 x (List.mem_of_getElem? h1)))
    · exact rise_gap p2 h1 h2 hz
theorem rise_lt {l : List Int} (h : l.Pairwise (· < ·)) {k : Nat} {x y : Int} (h1 : l[k]? = some x) (h2 : l[k + 1]? = some y) : x < y := by
  obtain ⟨a, ea⟩ := List.getElem?_eq_some_iff.mp h1
  obtain ⟨b, eb⟩ := List.getElem?_eq_some_iff.mp h2
  have := List.pairwise_iff_getElem.mp h k (k + 1) a b (by omega)
  omega
theorem shaped_ints (l : List Int) : SeqAt.shaped (.list (l.map .int)) = true := by
  have h1 := lay_ints l
  have h2 := depth_ints l
  unfold SeqAt.shaped
  rw [PyData.canLay0, h1, Bool.true_and]
  refine decide_eq_true ?_
  rw [PyData.depth]
  omega
theorem mins_uni {l : List Int} {x y : Int} (hx : x ∈ l) (ux : ∀ z ∈ l, x ≤ z) (hy : y ∈ l) (uy : ∀ z ∈ l, y ≤ z) : x = y := by
  have := ux y hy
  have := uy x hx
  omega
end PL
namespace PL
open PySem PySem.Spec L2
/-! ### [x[e] for x in a list of one's own]: its parts are taken out, the rest is given up -/
def pickL (n : Nat) : List PyData → Option (List PyData)
  | [] => some []
  | .list es :: ds => match es[n]?, pickL n ds with
    | some e, some r => some (e :: r)
    | _, _ => none
  | _ :: _ => none
theorem rx_item {K : PySem.W.Frag} {H : Hp} : ∀ {vs : List V} {ds : List PyData} {F : List Addr} {n : Nat} {d : PyData}, RxAll K H vs ds F → ds[n]? = some d → ∃ v F', vs[n]? = some v ∧ Rx K H v d F' ∧ F'.Sublist F
  | _, _, _, _, _, .nil, e => by simp at e
  | _, _, _, 0, _, .cons (v := v) (F := F) r s, e => by
    simp at e
    subst e
    exact ⟨v, F, rfl, r, List.sublist_append_left _ _⟩
  | _, _, _, n + 1, _, .cons r s, e => by
    obtain ⟨v, F', h1, h2, h3⟩ := rx_item (n := n) s (by simpa using e)
    exact ⟨v, F', by simpa using h1, h2, h3.trans (List.sublist_append_right _ _)⟩
theorem rx_pick {K : PySem.W.Frag} {H : Hp} {n : Nat} : ∀ {vs : List V} {ds : List PyData} {F : List Addr} {rs : List PyData}, RxAll K H vs ds F → pickL n ds = some rs →
    ∃ zs F', RxAll K H zs rs F' ∧ F'.Sublist F ∧ zs.length = vs.length ∧ ∀ (i : Nat) (v : V), vs[i]? = some v → ∃ (b : Addr) (ys : List V) (z : V), v = .ref b ∧ H b = some (.lst ys) ∧ ys[n]? = some z ∧ zs[i]? = some z
  | _, _, _, _, .nil, h => by
    cases h
    exact ⟨[], [], .nil, .refl _, rfl, fun i v e => by simp at e⟩
  | _, _, _, _, .cons (v := v) (vs := vs) (d := d) (ds := ds) r s, h => by
    cases r with
    | @lst b ys es F1 hb hr =>
      unfold pickL at h
      split at h
      · rename_i e1 r1 h1 h2
        cases h
        obtain ⟨z, F2, g1, g2, g3⟩ := rx_item hr h1
        obtain ⟨zs, F3, k1, k2, k3, k4⟩ := rx_pick s h2
        refine ⟨z :: zs, F2 ++ F3, .cons g2 k1, ((List.Sublist.cons _ g3).append k2), by simp [k3], fun i v e => ?_⟩
        cases i with
        | zero =>
          simp at e
          exact ⟨b, ys, z, e.symm, hb, g1, rfl⟩
        | succ i =>
          simp only [List.getElem?_cons_succ] at e ⊢
          exact k4 i v e
      · cases h
    | _ => cases h
def wPick (i : Nat) (wa we : WE) : WE := fun ρ Q => wa ρ fun ρ1 k d => k = .un ∧ i < ρ1.length ∧ ∃ ds n rs, d = .list ds ∧ 0 ≤ n ∧ ds.length ≤ sizeLine ∧ pickL n.toNat ds = some rs ∧ (we (frz (wipeR ρ1 [i])) fun _ _ y => y = .int n) ∧ Q ρ1 .un (.list rs)
theorem env_hole {σ : St} {ρ : Rho} (h : EnvOk σ ρ) : ∀ {i : Nat} (o : Option V), ρ[i]? = some none → EnvOk (σ.set i o) ρ ∧ lv (σ.set i o) ρ = lv σ ρ := by
  induction h with
  | e0 => intro i o e; simp at e
  | @e1 v k d σ ρ hs h ih =>
    intro i o e
    cases i with
    | zero => simp at e
    | succ i =>
      obtain ⟨a, b⟩ := ih o (by simpa using e)
      exact ⟨.e1 hs a, by simp only [List.set_cons_succ, lv]; rw [b]⟩
  | @e2 o' σ ρ h ih =>
    intro i o e
    cases i with
    | zero => exact ⟨.e2 h, by rw [List.set_cons_zero, lv_none, lv_none]⟩
    | succ i =>
      obtain ⟨a, b⟩ := ih o (by simpa using e)
      exact ⟨.e2 a, by rw [List.set_cons_succ, lv_none, lv_none, b]⟩
theorem Seen.ext2 {K : PySem.W.Frag} {H H' : Hp} {E E' : List Addr} {c : Cel} (e : Same H H') (e2 : Same (hide H E) (hide H' E')) (s : Seen K H E c) : Seen K H' E' c := by
  obtain ⟨v, k, d⟩ := c
  cases k with
  | un => trivial
  | fr => obtain ⟨F, s⟩ := s; exact ⟨F, s.same e2⟩
  | br => obtain ⟨F, s⟩ := s; exact ⟨F, s.same e⟩
  | ro => exact dp_same e2 s
  | rt => obtain ⟨a, vs, ds, F, h1, h2, h3, h4⟩ := s; exact ⟨a, vs, ds, F, h1, h2, e _ _ h3, h4.same e2⟩
  | io => trivial
theorem lift_pick {K : PySem.W.Frag} {i : Nat} {ta te : TE} {wa we : WE} (la : LiftE K ta wa) (le : LiftE K te we) : LiftE K (tLc (iList K ta) (gName i) tYes (tOp (rIx K) (tVar i) te) [i]) (wPick i wa we) := by
  intro G H σ ρ L Q Qp ok s h q
  refine la G H σ ρ L _ _ ok s h fun v H1 ρ1 k d ok1 s1 h1 => ?_
  obtain ⟨rfl, hi, ds, n, rs, rfl, n0, hz, hp, he, hq⟩ := h1
  obtain ⟨E, st⟩ := id s1
  have hex := st.ex
  cases hex with
  | @un _ _ FF _ E' r e' =>
  cases r with
  | @lst a xs _ F hx hr =>
  obtain ⟨zs, F', hr2, sub, hlen, hget⟩ := rx_pick hr hp
  have lx : xs.length = ds.length := rxAll_len hr
  refine ⟨a, rfl, ⟨xs, SqL.of hx⟩, fun D hD => ?_⟩
  obtain ⟨okw, okw2, elv, M, pm⟩ := ok1.wipe [i]
  have hole : (wipeR ρ1 [i])[i]? = some none := by
    show (ρ1.set i none)[i]? = _
    rw [List.getElem?_set_self hi]
  refine ⟨fun j m H => m = xs.length - j ∧ j ≤ xs.length ∧ Same H1 H ∧ H D = some (.lst (zs.take j)), ⟨xs.length, by simp, Nat.zero_le _, same_upd hD, by rw [upd_same]; rfl⟩, ?_⟩
  rintro j m H2 ⟨rfl, hj, sm, hDj⟩
  by_cases hlt : j < xs.length
  · refine .inr ⟨⟨xs, xs[j], SqL.of (sm _ _ hx), List.getElem?_eq_getElem hlt⟩, fun H' => j + 1 ≤ xs.length ∧ Same H1 H' ∧ H' D = some (.lst (zs.take (j + 1))), fun H' h => ⟨xs.length - (j + 1), by omega, rfl, h⟩, ?_⟩
    rintro x H3 ⟨rfl, hx3⟩
    have e0 := hx3 xs (SqL.of (sm _ _ hx))
    obtain ⟨b, ys, z, hb, hys, hz1, hz2⟩ := hget j x e0
    have okE := env_hole okw2 (some x) hole
    refine ⟨by simp [L2.wipe], ?_⟩
    show tOp (rIx K) (tVar i) te ((L2.wipe σ [i]).set i (some x)) H3 _
    have hi2 : i < (L2.wipe σ [i]).length := by rw [okw2.len]; show i < (ρ1.set i none).length; rw [List.length_set]; exact hi
    refine ⟨x, List.getElem?_set_self hi2, ?_⟩
    have sF : St0 K H3 G (lv ((L2.wipe σ [i]).set i (some x)) (wipeR ρ1 [i]) ++ L) := by
      rw [okE.2, elv]
      have z : St0 K H1 G (M ++ (lv σ (wipeR ρ1 [i]) ++ L)) := by
        refine s1.drop.perm ?_
        rw [← List.append_assoc]
        exact pm.append_right L
      exact (z.drops).grow sm
    refine le ⟨H3, H3, Frm0⟩ H3 _ (frz (wipeR ρ1 [i])) [] _ _ (env_frz okE.1) (st_frz okE.1 sF) he fun v' H4 ρ4 k4 d4 ok4 s4 h4 => ?_
    subst h4
    have dv := s4.dp
    cases dv
    have sm4 : Same H3 H4 := by obtain ⟨E4, st4⟩ := s4; exact st4.gr
    have hn : n.toNat < ys.length := (List.getElem?_eq_some_iff.mp hz1).1
    have ea : atI ys n = some z := by
      unfold atI ixN
      rw [if_pos n0, if_pos (by omega)]
      exact hz1
    refine .inl ⟨b, ys, n, z, hb, rfl, SqL.of ((sm.trans sm4) _ _ hys), ea, zs.take j, sm4 _ _ hDj, by rw [List.length_take]; omega, by omega, fun p o e => ?_, ?_⟩
    · by_cases ep : p = D
      · subst ep; rw [hD] at e; cases e
      · rw [upd_ne ep]; exact (sm.trans sm4) _ _ e
    · rw [upd_same, List.take_add_one, hz2]; rfl
  · have ej : j = xs.length := by omega
    subst ej
    rw [List.take_of_length_le (by omega)] at hDj
    refine .inl ⟨⟨xs, SqL.of (sm _ _ hx), Nat.le_refl _⟩, ?_⟩
    have hmem := st.ex.mem
    have hDE : ∀ p ∈ (a :: F) ++ E', p ≠ D := fun p hp e => by
      obtain ⟨o, ho, _⟩ := hmem p hp
      rw [e, hD] at ho; cases ho
    have hsub : ∀ p, p ∈ F' ++ E' → p ∈ (a :: F) ++ E' := fun p hp => by
      rcases List.mem_append.mp hp with hp | hp
      · exact List.mem_append_left _ (List.mem_cons_of_mem _ (sub.subset hp))
      · exact List.mem_append_right _ hp
    have nd := st.nd
    have nd2 : (F' ++ E').Nodup := (((List.Sublist.cons a sub).append (List.Sublist.refl E')).nodup nd)
    have nG : G.g D = none := by
      cases hg : G.g D with
      | none => rfl
      | some o => have := hide_same _ _ (st.sm _ _ hg); rw [hD] at this; cases this
    have hh : ∀ {g : Hp}, Same g (hide H1 ((a :: F) ++ E')) → Same g (hide H2 (D :: (F' ++ E'))) := fun {g} sg p o e => by
      have z := sg p o e
      have zE : p ∉ (a :: F) ++ E' := fun hp => by rw [hide_in hp] at z; cases z
      rw [hide_of zE] at z
      have pD : p ≠ D := fun e => by rw [e, hD] at z; cases z
      rw [hide_of (fun hp => by
        rcases List.mem_cons.mp hp with hp | hp
        · exact pD hp
        · exact zE (hsub p hp))]
      exact sm _ _ z
    have fin : St0 K H2 G (⟨.ref D, .un, .list rs⟩ :: (lv σ ρ1 ++ L)) := by
      refine ⟨(D :: F') ++ E', .un (.lst hDj (hr2.same sm)) (e'.same sm), ?_, ?_, hh st.sm, st.gr.trans sm, fun c hc => ?_⟩
      · refine List.nodup_cons.mpr ⟨fun hp => hDE D (hsub D hp) rfl, nd2⟩
      · intro p hp
        rcases List.mem_cons.mp hp with rfl | hp
        · exact nG
        · exact st.nw p (hsub p hp)
      · rcases List.mem_cons.mp hc with rfl | hc
        · trivial
        · exact (st.sn c (List.mem_cons_of_mem _ hc)).ext2 sm (hh (Same.refl _))
    exact q _ H2 ρ1 _ _ ok1 fin hq
end PL
namespace PL
open PySem PySem.Spec PyProof.Rows L2
section
variable {P : Program} {w : World} {A : Around} {E : Value → Shared → Prop} {s : Shared}
def eSet (w : World) : Obj := { cls := .type "set", dict := none, data := .set #[] 0 (.fresh 0 0 (!w.params.followText "set-order")) }
/-- set(l) of a list of ints -/
theorem setOfInts {l : Addr} {items : Array Value} (ns : List Int) {Q : Value → Shared → Prop} (hh : A.handled = none) (hl : s.heap.IsList l items) (hit : IntsAre items.toList ns) (hb : ns.length + 1 < scanBound)
    (q : ∀ (h' : Heap) (tk c : Nat), SetR w h' s.heap.objs.size (fun j => decide (j ∈ ns)) c → c ≤ ns.length → (∀ b o, s.heap.get? b = some o → h'.get? b = some o) → Q (.ref s.heap.objs.size) { s with heap := h', toks := tk }) :
    wpAny (model P w) A (call (.type "set") [.ref l]) Q E s := by
  have hsz : items.size = ns.length := (Array.length_toList (xs := items)).symm.trans (IntsAre.length hit)
  obtain ⟨_, _, mro⟩ := F.called_set.mro
  have a1 := F.called_set.made; have a2 := F.called_set.sub; have a3 := F.called_set.notType; have a4 := F.called_set.canCreate; have a5 := F.typeCall_set_1 (.ref l)
  refine wpAny_call (codeAny_of_tree (?_ : wpAny _ _ (callAny (.type "set") _) _ _ _))
  refine wpAny_pure (And.intro (Code.quiet_builtin _ (by decide +kernel)) (codeAny_builtin F.entry_type_call ?_))
  rw [Around.under_plain (weight_type_call_type "set" [.ref l] []) rfl]
  repeat (any_goals (first | assumption | wp_step))
  refine codeAny_mono (code_set_led1 (.ref l) (E := E) (Q₁ := fun r t => r = .ref s.heap.objs.size ∧ t = { s with heap := s.heap.push (eSet w) }) (And.intro rfl rfl)) fun r t hr => ?_
  match r, hr with
  | .error _, hr => exact hr
  | .ok (.ret r), hr =>
    obtain ⟨e1, e2⟩ := hr
    subst e1 e2
    have g0 : (s.heap.push (eSet w)).get? s.heap.objs.size = some (eSet w) := Heap.get?_push_size _ rfl
    have ty : Shared.TypeIs { s with heap := s.heap.push (eSet w) } (.ref s.heap.objs.size) "set" := ⟨_, g0, rfl⟩
    have b1 := F.called_set.init.lookup; have b2 := F.called_set.init.bind (.ref s.heap.objs.size)
    repeat (any_goals (first | assumption | wp_step))
    let done : Value → Shared → Prop := fun r t => r = .none ∧ ∃ h' tk c, t = { s with heap := h', toks := tk } ∧ SetR w h' s.heap.objs.size (fun j => decide (j ∈ ns)) c ∧ c ≤ ns.length ∧ ∀ b o, s.heap.get? b = some o → h'.get? b = some o
    refine codeAny_mono (codeAny_call_builtin (R := wants done E) F.called_set.init.plain F.entry_set_init (check_set_init_1 ty ?_)) fun r t hr => ?_
    · obtain ⟨⟨c0, d0, x0, sl⟩, hol, hcl, nl, hdl⟩ := hl
      simp only at hcl hdl
      subst hcl hdl
      have g1 : (s.heap.push (eSet w)).get? l = some { cls := .type "list", dict := d0, data := .seq items nl, slots := sl } := Heap.get?_push_of_some _ hol
      have hl1 : (s.heap.push (eSet w)).IsList l items := ⟨_, g1, rfl, nl, rfl⟩
      have u1 := F.sub_list_set; have u2 := F.sub_list_frozenset
      have u3 : (Value.type "list" == Value.type "dict") = false := by decide
      unfold Builtin.«set.__init__» noKeywords Builtin.Frozenset.updateFrom
      generalize hI : pyIter = it
      wp_walk
      subst hI
      refine wpAny_pyIter_list hl1 (wpAny_bind (wpAny_runValue ?_))
      have lls : l < s.heap.objs.size := Heap.lt_size hol
      have sz : (s.heap.push (eSet w)).objs.size = s.heap.objs.size + 1 := Heap.size_push ..
      have three : A.in1.in1.in1.handled = none := by simp [hh]
      have ne1 : l ≠ (s.heap.push (eSet w)).objs.size := by rw [sz]; exact Nat.ne_of_lt (Nat.lt_succ_of_lt lls)
      have out : s.heap.objs.size ∉ [(s.heap.push (eSet w)).objs.size, l] := by
        intro z
        rw [sz] at z
        rcases List.mem_cons.mp z with z | z
        · exact Nat.ne_of_lt (Nat.lt_succ_self _) z
        · exact Nat.ne_of_gt lls (List.mem_singleton.mp z)
      have vals : ∀ (i : Nat) (v : Value), items[i]? = some v → ∃ k t, ns[i]? = some k ∧ v = .int k t := fun i v hv => by
        have hi : i < ns.length := hsz ▸ (Array.getElem?_eq_some_iff.mp hv).1
        obtain ⟨t, e⟩ := IntsAre.int_at hit i v ((Array.getElem?_toList ..).trans hv)
        rw [List.getD_eq_getElem?_getD, List.getElem?_eq_getElem hi] at e
        exact ⟨ns[i], t, List.getElem?_eq_getElem hi, e⟩
      refine set_update_ints ((Walks.list three _ l ne1 items).toS) s.heap.objs.size out ns hsz hb vals (items.size - 0) 0 _ (by omega) (Nat.zero_le _) (And.intro ⟨_, Heap.get?_push_size _ rfl, rfl, rfl⟩ (hl1.push _)) ?z0 ?zR
      case z0 => exact ⟨0, Nat.le_refl 0, setR_new_at (Heap.get?_push_of_some _ g0)⟩
      case zR =>
        rintro ⟨h', g', d', tk', os'⟩ c' hm hc' hS
        have e1 : g' = s.gens := hm.gens
        have e2 : d' = s.drawn := hm.drawn
        have e3 : os' = s.os := hm.os
        subst e1 e2 e3
        show wpAny _ _ _ _ _ _
        refine wpAny_pure ?_
        show wpAny _ _ (ret Value.none) _ _ _
        refine wpAny_pure (And.intro rfl ⟨h', tk', c', rfl, hS, hsz ▸ hc', fun b o e => ?_⟩)
        have lb : b < s.heap.objs.size := Heap.lt_size e
        refine hm.heap b o (fun z => ?_) (Heap.get?_push_of_some _ (Heap.get?_push_of_some _ e))
        rw [sz] at z
        rcases List.mem_cons.mp z with z | z
        · exact Nat.ne_of_lt lb z
        · exact Nat.ne_of_lt (Nat.lt_succ_of_lt lb) (List.mem_singleton.mp z)
    · match r, hr with
      | .error _, hr => exact hr
      | .ok (.ret r), hr =>
        obtain ⟨e1, h', tk, c', e2, r1, r2, r3⟩ := hr
        subst e1 e2
        repeat (any_goals (first | assumption | wp_step))
        exact q _ _ _ r1 r2 r3
      | .ok .next, hr => exact hr.elim
      | .ok .brk, hr => exact hr.elim
      | .ok .cont, hr => exact hr.elim
  | .ok .next, hr => exact hr.elim
  | .ok .brk, hr => exact hr.elim
  | .ok .cont, hr => exact hr.elim
end
end PL
namespace PL
open PySem PySem.Spec L2
/-! ### [x[e] for x in xs], xs one's own -/
def pickMt (i : Nat) (m : Mc) (sc : Scope) (e : Expr) : Option (List (Scope × Expr)) := match e with
  | .ListComp (.Subscript (.Name y _) z _) [⟨.Name x _, iter, [], as⟩] scope _ =>
    if (decide (as = 0) && setN iter && blkC m.N sc scope (ownOf m [i]) && (nmB m i x && locB scope x) && (nmB m i y && visB scope y && dbgB y) && ixOk z) = true then some [(sc, iter), (scope, z)] else none
  | _ => none
def pickT (i : Nat) (K : PySem.W.Frag) (ts : List TE) : TE := match ts with
  | [ta, te] => tLc (iList K ta) (gName i) tYes (tOp (rIx K) (tVar i) te) [i]
  | _ => fun _ _ _ => False
def pickW (i : Nat) (ws : List WE) : WE := match ws with
  | [wa, we] => wPick i wa we
  | _ => fun _ _ => False
theorem pick_sound (i : Nat) {m : Mc} {sc : Scope} {j : Nat} {X : Cx} (c : Cxt m sc j X) {e : Expr} {es : List (Scope × Expr)} {ts : List TE} (h : pickMt i m sc e = some es)
    (a : All2 (fun (p : Scope × Expr) t => ∀ X', Sib X X' → Cxt m p.1 j X' → PE X' p.2 t) es ts) : PE X e (pickT i X.K ts) := by
  unfold pickMt at h
  split at h
  · rename_i y py z ps x px iter as scope pos
    split at h
    · rename_i hb
      cases h
      have h5 := and2 hb
      have h4 := and2 h5.1
      have h3 := and2 h4.1
      have h2 := and2 h3.1
      have h1 := and2 h2.1
      have e1 := of_decide_eq_true h1.1
      subst e1
      cases a with
      | cons a1 a =>
        cases a with
        | cons a2 a =>
          cases a
          rename_i ta te
          have vy := and2 h4.2
          have vy1 := and2 vy.1
          have hm : mtG m scope (.nm i) (.Name x px) = true := h3.2
          have q := pe_lc (elt := .Subscript (.Name y py) z ps) (pos := pos) (te := tOp (rIx X.K) (tVar i) te) (tt := rdC X.K .no) (g := rdG X.K (.nm i)) (wi := iList X.K ta) c.calm (by rw [c.n]; exact c.nd) (pi_list (a1 X (Sib.refl X) c)) (c.ok h2.2)
            (fun s H C cl fp => soundG (c.blk s H C cl fp) (.nm i) (.Name x px) hm)
            (fun s H C cl fp => soundC .no (c.blk s H C cl fp) [] rfl trivial)
            (fun s H C cl fp => pe_ix ix_seq (pe_var ((c.blk s H C cl fp).nm vy1.1) ((c.blk s H C cl fp).vis vy1.2) (dbg1 vy.2) (dbg2 vy.2)) (a2 _ ⟨rfl, rfl, rfl, rfl, rfl⟩ (c.blk s H C cl fp)) (ix_of h5.2)) (set_of h1.2)
          rw [ownOf_snd] at q
          exact q
    · cases h
  · cases h
def exPick (i : Nat) : ExtX where
  t := pickT i
  w := pickW i
  ct := []
  mt := pickMt i
  lift := by
    intro K ts ws a
    cases a with
    | nil => exact fun G H σ ρ L Q Qp ok s h q => h.elim
    | cons a1 a =>
      cases a with
      | nil => exact fun G H σ ρ L Q Qp ok s h q => h.elim
      | cons a2 a =>
        cases a with
        | nil => exact lift_pick a1 a2
        | cons a3 a => exact fun G H σ ρ L Q Qp ok s h q => h.elim
  mon := by
    intro _ ws h
    match ws, h with
    | [], _ => exact fun _ _ _ _ h => h.elim
    | [_], _ => exact fun _ _ _ _ h => h.elim
    | [wa, we], h =>
      intro ρ Q Q' q z
      refine h wa (by simp) ρ _ _ (fun ρ1 k d y => ?_) z
      obtain ⟨y1, y2, ds, n, rs, y3, y4, y5, y6, y7, y8⟩ := y
      exact ⟨y1, y2, ds, n, rs, y3, y4, y5, y6, y7, q _ _ _ y8⟩
    | _ :: _ :: _ :: _, _ => exact fun _ _ _ _ h => h.elim
  tru := by
    intro m sc e es h
    unfold pickMt at h
    split at h
    · rfl
    · cases h
  sound := fun c _ _ _ _ h a => pick_sound i c h a
theorem w_pick (i : Nat) (wa we : WE) : (exPick i).w [wa, we] = wPick i wa we := rfl
theorem ct_pick (i : Nat) : (exPick i).ct = [] := rfl
/-! ### sorted(set(xs)), xs a list of whole numbers -/
def rSetI (w : World) (K : PySem.W.Frag) : List V → Hp → VK → Prop := fun vs H Q => ∃ (a : Addr) (xs : List V) (ns : List Int), vs = [V.ref a] ∧ SqL K H a xs ∧ xs = ns.map V.int ∧ ns.length < 64 ∧
  ∀ p n, n ≤ ns.length → H p = none → Q (.ref p) (upd H p (SetO w p (fun j => decide (j ∈ ns)) n))
theorem cr_setI {X : Cx} (hc : X.calm = true) : CallR X (.type "set") (rSetI X.w X.K) := by
  intro pins s σ H vs us Q I r h
  obtain ⟨a, xs, ns, rfl, hs, rfl, h64, q⟩ := h
  obtain ⟨its, rv, hl, hz⟩ := I.list hs
  rw [Vals.ref1 r]
  refine setOfInts ns (I.ok.hd hc) hl.isList (by simpa using ints_vals rv) (by unfold scanBound; omega) fun h' tk c R hcn k => ?_
  exact ⟨.ref _, upd H s.heap.objs.size (SetO X.w s.heap.objs.size _ c), I.laid (t' := tk) k (Nat.le_refl _) (setO_new R), rfl, q _ c hcn (I.hok.fresh (Nat.le_refl _))⟩
def tSrs (K : PySem.W.Frag) (ta : TE) : TE := fun σ H Q => ta σ H fun x H1 => ∃ (a : Addr) (xs : List V) (ns : List Int), x = V.ref a ∧ SqL K H1 a xs ∧ xs = ns.map V.int ∧ ns.length < 64 ∧
  ∀ (p : Addr) (u : HO) (p' : Addr) (l : List Int), H1 p = none → p' ≠ p → H1 p' = none → l.Pairwise (· < ·) → (∀ k : Int, k ∈ l ↔ k ∈ ns) → Q (.ref p') (upd (upd H1 p u) p' (.lst (l.map V.int)))
theorem pe_srs {X : Cx} (hc : X.calm = true) {e : Expr} {ta : TE} {x y : Str} {px py p1 p2 : Pos} (g1 : Gl X x) (m1 : X.mg x = none) (e1 : x = "sorted") (g2 : Gl X y) (m2 : X.mg y = none) (e2 : y = "set") (ha : PE X e ta) (st : starN e = true) :
    PE X (.Call (.Name x px) [.Call (.Name y py) [e] [] p1] [] p2) (tSrs X.K ta) := by
  subst e1 e2
  have b := pe_callB (p := px) (pos := p2) (cr_sortedSet hc) g1 m1 (by decide +kernel) (pa_cons (pe_callTy (p := py) (pos := p1) (cr_setI hc) g2 m2 (by decide +kernel) (pa_cons (pe_mono ha) pa_nil (star_of st)) (by decide) (by decide) (star_of st) rfl) pa_nil (star_of rfl)) (by decide) (by decide) (star_of rfl) rfl
  refine ⟨fun pins s σ H Q I h => b.run pins s σ H Q I ?_⟩
  refine ⟨_, h, fun v H1 z => ?_⟩
  obtain ⟨a, xs, ns, rfl, hs, hx, h64, q⟩ := z
  refine ⟨a, xs, ns, rfl, hs, hx, h64, fun p n hn hp => ⟨p, _, n, rfl, upd_same, by omega, fun l p' hl hm _ hp' => ?_⟩⟩
  have ne : p' ≠ p := fun z => by rw [z, upd_same] at hp'; cases hp'
  rw [upd_ne ne] at hp'
  exact q p _ p' l hp ne hp' hl fun k => by rw [hm k]; simp
def wSrs (wa : WE) : WE := fun ρ Q => wa ρ fun ρ1 k d => ∃ ns : List Int, d = .list (ns.map PyData.int) ∧ ns.length < 64 ∧ ∀ l : List Int, l.Pairwise (· < ·) → (∀ k : Int, k ∈ l ↔ k ∈ ns) → Q ρ1 .un (.list (l.map PyData.int))
theorem dpAll_intsV {K : PySem.W.Frag} {H : Hp} : ∀ {ns : List Int} {xs : List V}, DpAll K H xs (ns.map PyData.int) → xs = ns.map V.int
  | [], _, h => by cases h; rfl
  | n :: ns, _, h => by
    cases h with
    | cons d r =>
      cases d
      rw [dpAll_intsV r]; rfl
theorem ints_dpAll {K : PySem.W.Frag} {H : Hp} : ∀ ns : List Int, RxAll K H (ns.map V.int) (ns.map PyData.int) []
  | [] => .nil
  | n :: ns => RxAll.cons (F := []) (F' := []) (.int _) (ints_dpAll ns)
theorem lift_srs {K : PySem.W.Frag} {ta : TE} {wa : WE} (l : LiftE K ta wa) : LiftE K (tSrs K ta) (wSrs wa) := by
  intro G H σ ρ L Q Qp ok s h q
  refine l G H σ ρ L _ _ ok s h fun v H1 ρ1 k d ok1 s1 h1 => ?_
  obtain ⟨ns, rfl, h64, h1⟩ := h1
  have dv := s1.dp
  cases dv with
  | lst hs hd =>
    refine ⟨_, _, ns, rfl, hs, dpAll_intsV hd, h64, fun p u p' l hp ne hp' hl hm => q _ _ ρ1 .un _ ok1 ?_ (h1 l hl hm)⟩
    exact (s1.drop.grow (same_upd hp)).newUn (ints_dpAll l) (by rw [upd_ne ne]; exact hp')
def srsMt (m : Mc) (sc : Scope) (e : Expr) : Option (List (Scope × Expr)) := match e with
  | .Call (.Name x _) [.Call (.Name y _) [z] [] _] [] _ => if (blB m sc "sorted" x && blB m sc "set" y && starN z) = true then some [(sc, z)] else none
  | _ => none
def exSrs : ExtX where
  t := fun K ts => match ts with
    | [ta] => tSrs K ta
    | _ => fun _ _ _ => False
  w := fun ws => match ws with
    | [wa] => wSrs wa
    | _ => fun _ _ => False
  ct := []
  mt := srsMt
  lift := by
    intro K ts ws a
    cases a with
    | nil => exact fun G H σ ρ L Q Qp ok s h q => h.elim
    | cons a1 a =>
      cases a with
      | nil => exact lift_srs a1
      | cons a2 a => exact fun G H σ ρ L Q Qp ok s h q => h.elim
  mon := by
    intro _ ws h
    match ws, h with
    | [], _ => exact fun _ _ _ _ h => h.elim
    | [wa], h =>
      intro ρ Q Q' q z
      refine h wa (by simp) ρ _ _ (fun ρ1 k d y => ?_) z
      obtain ⟨ns, y1, y2, y3⟩ := y
      exact ⟨ns, y1, y2, fun l hl hm => q _ _ _ (y3 l hl hm)⟩
    | _ :: _ :: _, _ => exact fun _ _ _ _ h => h.elim
  tru := by
    intro m sc e es h
    unfold srsMt at h
    split at h
    · rfl
    · cases h
  sound := by
    intro m sc j X c _ e es ts h a
    unfold srsMt at h
    split at h
    · rename_i x px y py z p1 p2
      split at h
      · rename_i hb
        cases h
        cases a with
        | cons a1 a =>
          cases a
          obtain ⟨h1, h3⟩ := and2 hb
          obtain ⟨h1, h2⟩ := and2 h1
          obtain ⟨q1, q2, q3⟩ := c.bl h1
          obtain ⟨r1, r2, r3⟩ := c.bl h2
          exact pe_srs c.calm (q1 ▸ q2) (q1 ▸ q3) q1 (r1 ▸ r2) (r1 ▸ r3) r1 (a1 X (Sib.refl X) c) h3
      · cases h
    · cases h
theorem w_srs (wa : WE) : exSrs.w [wa] = wSrs wa := rfl
theorem ct_srs : exSrs.ct = [] := rfl
end PL
namespace K34
open PySem PySem.Spec PL
open L2 (CDivW CMul CMulW)
local macro_rules | `(tactic| simp! []) => `(tactic| simp! [↓exD]) | `(tactic| simp! [$xs,*]) => `(tactic| simp (config := {maxSteps := 300000}) only [$xs,*, ↓exD, ↓wSs, ↓s_skip, ↓s_never, ↓s_ret, ↓s_retN, ↓s_asg, ↓s_six, ↓s_app, ↓s_ext, ↓s_clr, ↓s_pop0, ↓s_ins, ↓s_popA, ↓s_exp, ↓s_par, ↓s_par3, ↓s_ifs, ↓s_for, ↓s_whl, ↓forP_nil, ↓forP_cons, ↓lcP_nil, ↓lcP_cons, ↓wWalk, ↓wWalkB, ↓wR1, ↓wR2, ↓wR3, ↓wRev, ↓wEnum, ↓wSeq, ↓wRet, ↓wRetN, ↓wSkip, ↓wNever, ↓wDrop, ↓wAsg, ↓wG, ↓wGs, ↓gN, ↓gT, ↓gsNil, ↓gsCons, ↓wIfS, ↓e_var, ↓e_mv, ↓e_fz, ↓e_int, ↓e_bl, ↓e_non, ↓e_str, ↓e_bin, ↓e_cmp, ↓e_chain, ↓e_chain3, ↓e_and, ↓e_or, ↓e_one, ↓e_not, ↓e_neg, ↓e_ife, ↓e_tup, ↓e_lst, ↓e_ix, ↓e_sl, ↓e_cb, ↓e_isi, ↓e_isx, ↓t_isx, ↓wIsx, ↓e_call, ↓e_callF, ↓e_lrev, ↓e_lrg, ↓t_lrg, ↓wLrg, ↓e_ixr, ↓e_lcO, ↓e_lc, ↓t_var, ↓t_mv, ↓t_fz, ↓t_int, ↓t_bl, ↓t_non, ↓t_str, ↓t_bin, ↓t_cmp, ↓t_chain, ↓t_and, ↓t_or, ↓t_one, ↓t_not, ↓t_neg, ↓t_tup, ↓t_lst, ↓t_ix, ↓t_sl, ↓t_cb, ↓t_isi, ↓t_call, ↓t_callF, ↓t_lrev, ↓t_ixr, ↓t_lcO, ↓t_lc, ↓wA, ↓wO, ↓wCo, ↓wI, ↓wChain, ↓wChain3, ↓wLrev, ↓lrvOk, ↓unB, ↓akF, ↓retF, ↓finF, ↓wPar, ↓wPar3, ↓w2, ↓wVar, ↓wMv, ↓wFz, ↓wIxr, ↓wIxr2, ↓wC, ↓wIx, ↓wB, ↓wTr, ↓wTru, ↓wCat, ↓wAdd, ↓wSub, ↓wMod, ↓wDiv, ↓wPow, ↓wMul, ↓wRep, ↓oI, ↓bopW, ↓copW, ↓wLt, ↓wLe, ↓wGt, ↓wGe, ↓wEq, ↓wNe, ↓wIs, ↓wIsNot, ↓wIn, ↓wNotIn, ↓wNot, ↓wNeg, ↓wAnd, ↓wOr, ↓wIf, ↓wTAnd, ↓wTOr, ↓wTNot, ↓wIsi, ↓isi, ↓wTup, ↓wLst, ↓wNil, ↓wCons, ↓wCall, ↓wCallF, ↓wCB, ↓cbW, ↓cLen, ↓wLen, ↓cMax, ↓cMin, ↓cMnd, ↓cMxd, ↓cList, ↓cSort, ↓cInt, ↓wItems, ↓cTup, ↓wDisp, ↓wNoP, ↓wSoP, ↓wSl, ↓wSlc, ↓boo_bool, ↓reduceIte, ↓wChg, ↓wSet, ↓wApp, ↓isLst, ↓fApp, ↓fExt, ↓fClr, ↓fPop0, ↓fIns, ↓fPopA, ↓wYes, ↓e_pur, ↓t_pur, ↓wPur, ↓wPurT, ↓e_cpr, ↓t_cpr, ↓wCpr, ↓e_att, ↓t_att, ↓wAtt, ↓e_meth, ↓t_meth, ↓wMeth, ↓e_make, ↓t_make, ↓wMake, ↓e_gst, ↓t_gst, ↓e_sm, ↓t_sm, ↓wSm, ↓smW, ↓smT, ↓sSplit, ↓sPart, ↓sJoin, ↓sUpper, ↓sIndex, ↓cStr, ↓cSum, ↓wStr, ↓wCatT, ↓s_popG, ↓wPopG, ↓popOk, ↓popK, ↓s_asgC, ↓s_retC, ↓s_expC, ↓s_appC, ↓s_retM, ↓s_retCM, ↓s_sat, ↓wPC, ↓wMvC, ↓wIoC, ↓lenA, ↓hasS, ↓wRetM, ↓wSat, ↓finM, ↓finMn, ↓mvOk, ↓mvS, ↓s_appA, ↓s_asgA, ↓s_lcl, ↓wLcl, ↓wAppA, ↓wAsgA, ↓s_appP, ↓s_popP, ↓s_clrP, ↓s_insP, ↓wChgP, ↓wPth, ↓wP0, ↓wPix, ↓e_xt, ↓t_xt, ↓i_xt, ↓s_xt, ↓wL, ↓w_srs, ↓wSrs, List.any_cons, List.any_nil, kp_int, kp_bool, kp_str, kp_none, kp_lst_fr, kp_lst_un, kp_lst_ro, kp_lst_rt, kp_lst_br, kp_un, kp_flat, kv_fr, kv_ro, kv_br, kv_rt, kv_int, kv_bool, kv_str, kv_none, kv_lst, kv_lst_io, kv_ob, kv_ob_io, flat_ob, ak_io, stK_io, drK_io, wObA_0, wObA_1, wObA_2, wObA_3, wObA_4, wObA_5, isObC_mk, wObS_mk, pop_snoc, kv_flat, kv_kp, kv_kp_ro, ak_fr, ak_un, ak_br, ak_rt, ak_ro, ak_kv, ak_kp, stK_un, stK_fr, stK_ro, stK_rt, stK_br, stK_kp, kp_ne_br, kp_ne_ro, kp_ne_io, Int.cast_ofNat_Int, Int.reduceEq, Int.reduceNe, Int.natCast_add, flats_ints, cut_ints, flat, flats, ini, fin, allUn, allFr, isNon, isUn, isIo, ioU, ownK, finK, kf, itm, wipeR, wAt_0, wAt_1, wAt_m2, wAt_m3_2, wAt_m3, wAt_m4_2, wAt_m4_3, wAt_m4, wAt_m5_2, wAt_m5_3, wAt_m5_4, wAt_m5, wAt_m6_2, wAt_m6_3, wAt_m6_4, wAt_m6_5, wAt_m6, wAt_m7_2, wAt_m7_3, wAt_m7_4, wAt_m7_5, wAt_m7_6, wAt_m7, wAt_m8_2, wAt_m8_3, wAt_m8_4, wAt_m8_5, wAt_m8_6, wAt_m8_7, wAt_m8, wAt_2, wAt_3, divT, mulL, mulR, List.map_cons, List.map_nil, List.length_cons, List.length_nil, List.getElem?_cons_zero, List.getElem?_cons_succ, List.cons_append, List.nil_append, List.replicate_succ, List.replicate_zero, List.set_cons_zero, List.set_cons_succ, Nat.reduceAdd, Nat.reduceSub, if_true, if_false, List.all_cons, List.all_nil, Bool.and_self, Bool.or_true, Bool.true_or, Bool.false_or, Bool.or_false, Bool.true_and, Bool.and_true, Bool.false_and, Bool.and_false, and_true, true_and, and_self, isInts_map, shaped_int, shaped_bool, shaped_none, shaped_str, eqv_int, eqv_bool, eqv_str, decide_eq_true_eq, decide_true, decide_false, Bool.not_eq_true', decide_eq_false_iff_not, Bool.and_eq_true, Bool.or_eq_true, Bool.false_eq_true, reduceCtorEq, ne_eq, not_false_eq_true, not_true_eq_false, true_or, or_true, false_or, or_false, implies_true, false_implies, true_implies, pow10, pow2, Int.reduceLE, Int.reduceLT, Int.reduceToNat, Int.reducePow, Int.reduceMul, Int.reduceAdd, Int.reduceSub, Int.reduceNeg, Nat.reduceLeDiff, Nat.reducePow, Nat.reduceLT, ite_self, sizeLine, List.length_map, Bool.not_not, decide_not, Bool.not_false, Bool.not_true, List.all, wAtN_0, wAtN_1, wAtN_2, isL, allFl, getP_nil, frz_nil, frz_cons, frO_none, frO_some, frK, drB_nil, drB_cons, drO_none, drO_some, drK_un, drK_fr, drK_br, drK_ro, drK_rt, drK_kp, Nat.reduceEqDiff])
def top (i : Nat) : Stmt := PySem.Challenge.pw_fordbook_k34_the_sum_of_waits.main.body.getD i (.Pass ⟨0, 0, 0, 0⟩)
def bn : List Str := ["bool", "int", "isinstance", "len", "list", "max", "min", "range", "reversed", "set", "sorted", "tuple"]
def wf_stretches : WF := fun ds Q => match ds with
  | [(.fr, .int day), (.fr, .list ds)] => AllWd ds ∧ ds.length ≤ 10 ^ 6 ∧ Q (.list ((strx day (ds.map winOf)).map pd))
  | _ => False
theorem mf_stretches : MonF wf_stretches := by
  intro ds Q Q1 q h
  unfold wf_stretches at h ⊢
  split at h <;> first | exact h.elim | exact q _ h | (try dsimp only) <;> (repeat' (first | exact h | exact q _ h | refine Exists.imp (fun _ h => ?_) h | refine And.imp (fun h => ?_) (fun h => ?_) h | (intro a; replace h := h a))) | grind
abbrev st_stretches : Stmt := top 1
def m_stretches : Mc := ⟨["day", "clock", "parts", "at", "a", "b", "c"], bn⟩
def b_stretches : PSs := (.cons (.asg (.nm 2) (.lst .nil))
    (.cons (.asg (.nm 3) (.int 0))
    (.cons (.for (.li (.fz 1)) (.tp (.cons (.nm 4) (.cons (.nm 5) (.cons (.nm 6) .nil)))) (.cons (.ifs (.cmp .lt (.var 3) (.var 4)) (.cons (.app 2 (.tup (.cons (.mv 3) (.cons (.bin .sub (.var 4) (.int 1)) (.cons (.bl true) (.cons (.bin .add (.var 4) (.var 6)) .nil))))))
    .nil) .nil)
    (.cons (.app 2 (.tup (.cons (.mv 4) (.cons (.fz 5) (.cons (.bl false) (.cons (.mv 6) .nil))))))
    (.cons (.asg (.nm 3) (.bin .add (.var 5) (.int 1)))
    .nil))))
    (.cons (.ifs (.and (.cmp .ne (.var 1) (.lst .nil)) (.one (.cmp .lt (.var 3) (.var 0)))) (.cons (.app 2 (.tup (.cons (.mv 3) (.cons (.bin .sub (.var 0) (.int 1)) (.cons (.bl true) (.cons (.bin .add (.bin .add (.var 0) (.ix (.ix (.var 1) (.int 0)) (.int 0))) (.ix (.ix (.var 1) (.int 0)) (.int 2))) .nil))))))
    .nil) .nil)
    (.cons (.ret (.mv 2))
    .nil)))))
theorem t_stretches : Tx m_stretches st_stretches ["day", "clock"] b_stretches := ⟨⟨rfl, rfl, rfl, by decide +kernel, rfl, by decide +kernel, by decide +kernel⟩, by decide +kernel, by decide +kernel⟩
theorem p_stretches (ds : List Sl) (Q : PyData → Prop) (h : wf_stretches ds Q) (hl : ds.length = 2) : wSs b_stretches (fin Q) (ini 7 ds) := by
  unfold wf_stretches at h
  split at h
  · rename_i day ds
    obtain ⟨⟨l, rfl⟩, hlen, h⟩ := h
    rw [winOf_map] at h
    rw [List.length_map] at hlen
    have sh : SeqAt.shaped (.list (l.map wd)) = true := shaped_cd l
    unfold b_stretches
    simp! []
    refine forP_ind (fun ds ρ => ∃ (l0 l' : List Win) (acc : List Part) (t : Int) (oa ob oc : Option Sl), ds = (l'.map wd).map (fun d => (kp .fr d, d)) ∧ l = l0 ++ l' ∧ acc.length ≤ 2 * l0.length ∧ strGo l 0 = acc ++ strGo l' t ∧ endAt l 0 = endAt l' t ∧
      ρ = [some (.fr, .int day), some (.fr, .list (l.map wd)), some (.un, .list (acc.map pd)), some (.un, .int t), oa, ob, oc]) ?_ ?_ _ _ ⟨[], l, [], 0, none, none, none, rfl, rfl, Nat.zero_le _, rfl, rfl, rfl⟩
    · rintro ρ ⟨l0, l', acc, t, oa, ob, oc, e, hf, hacc, hg, he, rfl⟩
      cases l' with
      | cons _ _ => cases e
      | nil =>
        have hg : strGo l 0 = acc := by rw [hg]; show acc ++ [] = acc; rw [List.append_nil]
        have he : endAt l 0 = t := he
        rw [List.append_nil] at hf
        subst hf
        cases l with
        | nil =>
          simp! [sh, shaped_nil, eqv_nil, List.isEmpty_nil]
          subst hg
          exact h
        | cons f r =>
          have es : strx day (f :: r) = acc ++ if t < day then [⟨t, day - 1, true, day + f.1 + f.2.2⟩] else [] := by rw [← hg, ← he]; rfl
          rw [es] at h
          have hz : acc.length < 16777216 := by omega
          simp! [sh, shaped_lwd, shaped_nil, eqv_nil, List.isEmpty_cons, wd, hz]
          refine ⟨shaped_cd (f :: r), ?_⟩
          split
          · rename_i q
            rw [if_pos q, List.map_append] at h
            exact h
          · rename_i q
            rw [if_neg q, List.append_nil] at h
            exact h
    · rintro k d r ih ρ ⟨l0, l', acc, t, oa, ob, oc, e, hf, hacc, hg, he, rfl⟩
      cases l' with
      | nil => cases e
      | cons w l' =>
        rw [List.map_cons, List.map_cons] at e
        injection e with e1 e2
        injection e1 with e1 e3
        subst e1 e3
        have hlt : l0.length < l.length := by rw [hf, List.length_append, List.length_cons]; omega
        have hf' : l = (l0 ++ [w]) ++ l' := by rw [hf, List.append_assoc]; rfl
        have hz : acc.length < 16777216 := by omega
        have hz2 : acc.length + 1 < 16777216 := by omega
        refine forP_win ?_
        simp! [hz, hz2, List.length_append]
        have hgo : strGo (w :: l') t = (if t < w.1 then [⟨t, w.1 - 1, true, w.1 + w.2.2⟩] else []) ++ ⟨w.1, w.2.1, false, w.2.2⟩ :: strGo l' (w.2.1 + 1) := rfl
        rw [hgo] at hg
        split
        · rename_i q
          rw [if_pos q] at hg
          refine ih _ ⟨l0 ++ [w], l', (acc ++ [⟨t, w.1 - 1, true, w.1 + w.2.2⟩]) ++ [⟨w.1, w.2.1, false, w.2.2⟩], _, some (.un, .int w.1), some (.un, .int w.2.1), some (.un, .int w.2.2), e2, hf', ?_, ?_, he, ?_⟩
          · rw [List.length_append, List.length_append, List.length_append, List.length_singleton, List.length_singleton, List.length_singleton]; omega
          · rw [hg, List.append_assoc, List.append_assoc]; rfl
          · rw [List.map_append, List.map_append]; rfl
        · rename_i q
          rw [if_neg q] at hg
          refine ih _ ⟨l0 ++ [w], l', acc ++ [⟨w.1, w.2.1, false, w.2.2⟩], _, some (.un, .int w.1), some (.un, .int w.2.1), some (.un, .int w.2.2), e2, hf', ?_, ?_, he, ?_⟩
          · rw [List.length_append, List.length_append, List.length_singleton, List.length_singleton]; omega
          · rw [hg, List.append_assoc]; rfl
          · rw [List.map_append]; rfl
  · exact h.elim

def wf_told_at : WF := fun ds Q => match ds with
  | [(.fr, .tuple [.int p, .int q, .bool s, .int v]), (.fr, .int x)] => Q (.int (if s = true then v else x + v))
  | _ => False
theorem mf_told_at : MonF wf_told_at := by
  intro ds Q Q1 q h
  unfold wf_told_at at h ⊢
  split at h <;> first | exact h.elim | exact q _ h | (try dsimp only) <;> (repeat' (first | exact h | exact q _ h | refine Exists.imp (fun _ h => ?_) h | refine And.imp (fun h => ?_) (fun h => ?_) h | (intro a; replace h := h a))) | grind
abbrev st_told_at : Stmt := top 2
def m_told_at : Mc := ⟨["part", "x"], bn⟩
def b_told_at : PSs := (.cons (.ifs (.ix (.var 0) (.int 2)) (.cons (.ret (.ix (.var 0) (.int 3)))
    .nil) .nil)
    (.cons (.ret (.bin .add (.var 1) (.ix (.var 0) (.int 3))))
    .nil))
theorem t_told_at : Tx m_told_at st_told_at ["part", "x"] b_told_at := ⟨⟨rfl, rfl, rfl, by decide +kernel, rfl, by decide +kernel, by decide +kernel⟩, by decide +kernel, by decide +kernel⟩
theorem p_told_at (ds : List Sl) (Q : PyData → Prop) (h : wf_told_at ds Q) (hl : ds.length = 2) : wSs b_told_at (fin Q) (ini 2 ds) := by
  unfold wf_told_at at h
  split at h
  · rename_i p q s v x
    unfold b_told_at
    cases s <;> (simp! []; exact h)
  · exact h.elim

def wf_joined : WF := fun ds Q => match ds with
  | [(.fr, .list ds)] => AllWd ds ∧ ds.length ≤ 10 ^ 6 ∧ Q (.list ((joinW (ds.map winOf)).map wd))
  | _ => False
theorem mf_joined : MonF wf_joined := by
  intro ds Q Q1 q h
  unfold wf_joined at h ⊢
  split at h <;> first | exact h.elim | exact q _ h | (try dsimp only) <;> (repeat' (first | exact h | exact q _ h | refine Exists.imp (fun _ h => ?_) h | refine And.imp (fun h => ?_) (fun h => ?_) h | (intro a; replace h := h a))) | grind
abbrev st_joined : Stmt := top 3
def m_joined : Mc := ⟨["rows", "found", "a", "b", "c"], bn⟩
def b_joined : PSs := (.cons (.asg (.nm 1) (.lst .nil))
    (.cons (.for (.li (.mv 0)) (.tp (.cons (.nm 2) (.cons (.nm 3) (.cons (.nm 4) .nil)))) (.cons (.ifs (.and (.cmp .ne (.var 1) (.lst .nil)) (.and (.cmp .eq (.bin .add (.ix (.ix (.var 1) (.neg (.int 1))) (.int 1)) (.int 1)) (.var 2)) (.one (.cmp .eq (.ix (.ix (.var 1) (.neg (.int 1))) (.int 2)) (.var 4))))) (.cons (.six 1 (.neg (.int 1)) (.tup (.cons (.ix (.ix (.var 1) (.neg (.int 1))) (.int 0)) (.cons (.mv 3) (.cons (.mv 4) .nil)))))
    .nil) (.cons (.app 1 (.tup (.cons (.mv 2) (.cons (.mv 3) (.cons (.mv 4) .nil)))))
    .nil))
    .nil))
    (.cons (.ret (.mv 1))
    .nil)))
theorem t_joined : Tx m_joined st_joined ["rows"] b_joined := ⟨⟨rfl, rfl, rfl, by decide +kernel, rfl, by decide +kernel, by decide +kernel⟩, by decide +kernel, by decide +kernel⟩
theorem p_joined (ds : List Sl) (Q : PyData → Prop) (h : wf_joined ds Q) (hl : ds.length = 1) : wSs b_joined (fin Q) (ini 5 ds) := by
  unfold wf_joined at h
  split at h
  · rename_i ds
    obtain ⟨⟨l, rfl⟩, hlen, h⟩ := h
    rw [winOf_map] at h
    rw [List.length_map] at hlen
    unfold b_joined
    simp! []
    refine forP_ind (fun ds ρ => ∃ (acc rest : List Win) (oa ob oc : Option Sl), ds = (rest.map wd).map (fun d => (kp .fr d, d)) ∧ acc.length + rest.length ≤ l.length ∧ ((acc = [] ∧ rest = l) ∨ ∃ pre cur, acc = pre ++ [cur] ∧ joinW l = pre ++ joinGo cur rest) ∧
      ρ = [some (.fr, .list (l.map wd)), some (.un, .list (acc.map wd)), oa, ob, oc]) ?_ ?_ _ _ ⟨[], l, none, none, none, rfl, by simp, .inl ⟨rfl, rfl⟩, rfl⟩
    · rintro ρ ⟨acc, rest, oa, ob, oc, e, hle, hj, rfl⟩
      cases rest with
      | cons _ _ => cases e
      | nil =>
        simp! []
        rcases hj with ⟨rfl, rfl⟩ | ⟨pre, cur, rfl, q⟩
        · exact h
        · rw [q] at h; exact h
    · rintro k d r ih ρ ⟨acc, rest, oa, ob, oc, e, hle, hj, rfl⟩
      cases rest with
      | nil => cases e
      | cons w rest =>
        rw [List.map_cons, List.map_cons] at e
        injection e with e1 e2
        injection e1 with e1 e3
        subst e1 e3
        rw [List.length_cons] at hle
        refine forP_win ?_
        rcases hj with ⟨rfl, rfl⟩ | ⟨pre, cur, rfl, q⟩
        · simp! [shaped_nil, eqv_nil, List.isEmpty_nil]
          exact ih _ ⟨[w], rest, _, _, _, e2, by rw [List.length_singleton]; omega, .inr ⟨[], w, rfl, rfl⟩, rfl⟩
        · rw [List.length_append, List.length_singleton] at hle
          have sh : SeqAt.shaped (.list (pre.map wd ++ [wd cur])) = true := by
            have := shaped_lwd (pre ++ [cur]); rw [List.map_append] at this; exact this
          have hz : pre.length + 1 < 16777216 := by omega
          have fl : flats (pre.map wd ++ [wd cur]) = true := by
            have := flats_wd (pre ++ [cur]); rw [List.map_append] at this; exact this
          simp! [sh, shaped_nil, eqv_nil, empty_snoc, List.map_append, wAt_last, wd, ixN_last, List.length_append, hz, fl, set_last]
          have st : ∀ x y : PyData, (pre.map wd ++ [x]).set pre.length y = pre.map wd ++ [y] := fun x y => by
            have := set_last (pre.map wd) x y
            rw [List.length_map] at this
            exact this
          have sn : ∀ (a : List Win) (x : Win), (a ++ [x]).map wd = a.map wd ++ [wd x] := fun a x => by rw [List.map_append]; rfl
          have jg : joinGo cur (w :: rest) = if cur.2.1 + 1 = w.1 ∧ cur.2.2 = w.2.2 then joinGo (cur.1, w.2.1, w.2.2) rest else cur :: joinGo w rest := by cases rest <;> rfl
          rw [jg] at q
          refine ⟨sh, ?_⟩
          rw [st]
          by_cases q1 : cur.2.1 + 1 = w.1 ∧ cur.2.2 = w.2.2
          · rw [if_pos q1] at q
            rw [if_pos q1.1, if_pos q1.2]
            exact ih _ ⟨pre ++ [(cur.1, w.2.1, w.2.2)], rest, _, _, _, e2, by rw [List.length_append, List.length_singleton]; omega, .inr ⟨pre, (cur.1, w.2.1, w.2.2), rfl, q⟩, by rw [sn]; rfl⟩
          · rw [if_neg q1] at q
            have g := ih [some (.fr, .list (l.map wd)), some (.un, .list (((pre ++ [cur]) ++ [w]).map wd)), some (.un, .int w.1), some (.un, .int w.2.1), some (.un, .int w.2.2)] ⟨(pre ++ [cur]) ++ [w], rest, _, _, _, e2, by rw [List.length_append, List.length_append, List.length_singleton, List.length_singleton]; omega, .inr ⟨pre ++ [cur], w, rfl, by rw [q, List.append_assoc]; rfl⟩, rfl⟩
            rw [sn, sn] at g
            split
            · rename_i z1
              rw [if_neg (fun z2 => q1 ⟨z1, z2⟩)]
              exact g
            · exact g
  · exact h.elim

def wf_gathered : WF := fun ds Q => match ds with
  | [(.fr, .int day), (.fr, .list ds)] => ∃ (F : Int → Int) (l : List Part), ds = l.map pd ∧ l ≠ [] ∧ l.length ≤ 10 ^ 6 ∧ FOk day F ∧ Cov 0 l day ∧ Tel F l ∧ ∀ R, IsClock day R F → R.length ≤ l.length → Q (.list (R.map wd))
  | _ => False
theorem mf_gathered : MonF wf_gathered := by
  intro ds Q Q1 q h
  unfold wf_gathered at h ⊢
  split at h <;> first | exact h.elim | exact q _ h | (try dsimp only) <;> (repeat' (first | exact h | exact q _ h | refine Exists.imp (fun _ h => ?_) h | refine And.imp (fun h => ?_) (fun h => ?_) h | (intro a; replace h := h a))) | grind
abbrev st_gathered : Stmt := top 4
def m_gathered : Mc := ⟨["day", "parts", "rows", "ahead", "part", "first", "last", "ride"], bn⟩
def b_gathered : PSs := (.cons (.ifs (.cmp .eq (.var 1) (.lst .nil)) (.cons (.ret (.lst .nil))
    .nil) .nil)
    (.cons (.asg (.nm 2) (.lst .nil))
    (.cons (.asg (.nm 3) (.bin .add (.call "told_at" 2 wf_told_at (.cons (.ix (.var 1) (.int 0)) (.cons (.int 0) .nil))) (.var 0)))
    (.cons (.for (.rev (.mv 1)) (.nm 4) (.cons (.asg (.nm 5) (.ix (.var 4) (.int 0)))
    (.cons (.asg (.nm 6) (.ix (.var 4) (.int 1)))
    (.cons (.asg (.nm 7) (.ix (.var 4) (.int 3)))
    (.cons (.ifs (.ix (.var 4) (.int 2)) (.cons (.asg (.nm 5) (.fz 6))
    (.cons (.asg (.nm 7) (.bin .sub (.ix (.var 4) (.int 3)) (.var 6)))
    .nil)) .nil)
    (.cons (.ifs (.cmp .ge (.call "told_at" 2 wf_told_at (.cons (.var 4) (.cons (.ix (.var 4) (.int 1)) .nil))) (.var 3)) (.cons (.asg (.nm 6) (.bin .sub (.var 6) (.int 1)))
    .nil) .nil)
    (.cons (.ifs (.cmp .le (.var 5) (.var 6)) (.cons (.app 2 (.tup (.cons (.mv 5) (.cons (.mv 6) (.cons (.mv 7) .nil)))))
    .nil) .nil)
    (.cons (.asg (.nm 3) (.call "told_at" 2 wf_told_at (.cons (.var 4) (.cons (.ix (.var 4) (.int 0)) .nil))))
    .nil))))))))
    (.cons (.ret (.call "joined" 1 wf_joined (.cons (.lrev (.mv 2)) .nil)))
    .nil)))))
theorem t_gathered : Tx m_gathered st_gathered ["day", "parts"] b_gathered := ⟨⟨rfl, rfl, rfl, by decide +kernel, rfl, by decide +kernel, by decide +kernel⟩, by decide +kernel, by decide +kernel⟩
theorem p_gathered (ds : List Sl) (Q : PyData → Prop) (h : wf_gathered ds Q) (hl : ds.length = 2) : wSs b_gathered (fin Q) (ini 8 ds) := by
  unfold wf_gathered at h
  split at h
  · rename_i day ds
    obtain ⟨F, l, rfl, hn, hlen, fok, cov, tel, h⟩ := h
    have sh := shaped_lpd l
    have sn : ∀ (a : List Part) (x : Part), (a ++ [x]).map pd = a.map pd ++ [pd x] := fun a x => by rw [List.map_append]; rfl
    have hz0 : 0 < l.length := List.length_pos_iff.mpr hn
    have nil : (l.map pd).isEmpty = false := by cases l <;> first | exact absurd rfl hn | rfl
    have hd0 : (if (l[0]).s = true then (l[0]).v else (0 : Int) + (l[0]).v) = F 0 := by
      have c0 : (l[0]).p = 0 ∧ (l[0]).p ≤ (l[0]).q := by
        cases l with
        | nil => exact absurd rfl hn
        | cons x r => exact ⟨cov.1, cov.2.1⟩
      have := tel _ (List.getElem_mem hz0) 0 (by omega) (by omega)
      exact this
    unfold b_gathered
    simp! [↓wf_told_at, sh, shaped_nil, eqv_nil, nil, fun K => wAt_map pd l (i := 0) K (by omega) (by omega), pd]
    have ef : F day = F 0 + day := by have := fok.per 0; rw [Int.zero_add] at this; exact this
    have h0 : (if (l[0]).s = true then (l[0]).v else (0 : Int) + (l[0]).v) + day = F day := by rw [ef, ← hd0]
    rw [h0]
    refine forP_ind (fun ds ρ => ∃ (rr d : List Part) (t : Int) (o4 o5 o6 o7 : Option Sl), ds = (rr.map pd).map (fun d => (kp .fr d, d)) ∧ l = rr.reverse ++ d ∧ Cov 0 rr.reverse t ∧
      ρ = [some (.fr, .int day), some (.fr, .list (l.map pd)), some (.un, .list ((d.flatMap (rowF F)).reverse.map wd)), some (.un, .int (F t)), o4, o5, o6, o7]) ?_ ?_ _ _ ⟨l.reverse, [], day, none, none, none, none, by rw [← List.map_reverse], by rw [List.reverse_reverse, List.append_nil], by rw [List.reverse_reverse]; exact cov, rfl⟩
    · rintro ρ ⟨rr, d, t, o4, o5, o6, o7, e, hf, hc, rfl⟩
      cases rr with
      | cons _ _ => cases e
      | nil =>
        have hf : l = d := hf
        subst hf
        have rl := rows_len F l
        have jl := joinW_len (l.flatMap (rowF F))
        simp! [↓wf_joined, flats_wd, ← List.map_reverse, List.reverse_reverse, allWd_map, winOf_map]
        exact ⟨by omega, h _ (parts_clock fok cov tel) (by omega)⟩
    · rintro k d r ih ρ ⟨rr, d, t, o4, o5, o6, o7, e, hf, hc, rfl⟩
      cases rr with
      | nil => cases e
      | cons x rr =>
        rw [List.map_cons, List.map_cons] at e
        injection e with e1 e2
        injection e1 with e1 e3
        subst e1 e3
        rw [List.reverse_cons] at hf hc
        have hx : x ∈ l := by rw [hf]; simp
        have cx : Cov 0 rr.reverse x.p ∧ x.p ≤ x.q ∧ x.q + 1 = t := cov_snoc hc
        obtain ⟨cx1, cx2, cx3⟩ := cx
        subst cx3
        have v1 : (if x.s = true then x.v else x.q + x.v) = F x.q := tel x hx x.q cx2 (Int.le_refl _)
        have v2 : (if x.s = true then x.v else x.p + x.v) = F x.p := tel x hx x.p (Int.le_refl _) cx2
        have rl := rows_len F d
        have ll : l.length = rr.length + 1 + d.length := by rw [hf]; simp; omega
        have hz : ((d.flatMap (rowF F)).reverse.map wd).length < 16777216 := by rw [List.length_map, List.length_reverse]; omega
        have nx : ∀ o4 o5 o6 o7 rows, rows = (rowF F x).map wd → forP _ _ _ _ r [some (.fr, .int day), some (.fr, .list (l.map pd)), some (.un, .list ((d.flatMap (rowF F)).reverse.map wd ++ rows)), some (.un, .int (F x.p)), o4, o5, o6, o7] :=
          fun o4 o5 o6 o7 rows er => ih _ ⟨rr, x :: d, x.p, o4, o5, o6, o7, e2, by rw [hf, List.append_assoc]; rfl, cx1, by rw [er, List.flatMap_cons, List.reverse_append, rowF_rev, List.map_append]⟩
        generalize (d.flatMap (rowF F)).reverse.map wd = rws at *
        unfold rowF at nx
        obtain ⟨xp, xq, xs, xv⟩ := x
        simp only at cx2 v1 v2 nx
        generalize F xq = fq at *
        generalize F (xq + 1) = fa at *
        generalize F xp = fp at *
        rw [forP_cons]
        refine ⟨rfl, cutN 5 _ (fun ρ => ∃ f l0 r0 : Int, f = (if xs = true then xq else xp) ∧ l0 = (if fa ≤ fq then xq - 1 else xq) ∧ r0 = (if xs = true then xv - xq else xv) ∧ ρ = [some (.fr, .int day), some (.fr, .list (l.map pd)), some (.un, .list rws), some (.un, .int fa), some (.un, .tuple [.int xp, .int xq, .bool xs, .int xv]), some (.un, .int f), some (.un, .int l0), some (.un, .int r0)]) (by simp only [tkP, cSs, cSt, cOk, cPC, pthX, cAs, cOo, cIt, okM, mf_gs, implies_true, mf_joined, mf_told_at, and_true, and_self, true_and]) ?_ ?_⟩
        · simp only [tkP]
          by_cases q1 : fa ≤ fq
          · have q1' : (fq ≥ fa) = True := eq_true q1
            rw [if_pos q1]
            cases xs with
            | true =>
              simp only [if_true] at v1
              simp! [↓wf_told_at, pd, v1, q1']
              exact ⟨_, _, _, rfl, rfl, rfl, rfl⟩
            | false =>
              simp only [Bool.false_eq_true, if_false] at v1
              simp! [↓wf_told_at, pd, v1, q1']
              exact ⟨_, _, _, rfl, rfl, rfl, rfl⟩
          · have q1' : (fq ≥ fa) = False := eq_false q1
            rw [if_neg q1]
            cases xs with
            | true =>
              simp only [if_true] at v1
              simp! [↓wf_told_at, pd, v1, q1']
              exact ⟨_, _, _, rfl, rfl, rfl, rfl⟩
            | false =>
              simp only [Bool.false_eq_true, if_false] at v1
              simp! [↓wf_told_at, pd, v1, q1']
              exact ⟨_, _, _, rfl, rfl, rfl, rfl⟩
        · rintro ρ ⟨f, l0, r0, ef1, el1, er1, rfl⟩
          rw [← ef1, ← el1, ← er1] at nx
          simp only [dpP]
          by_cases q2 : f ≤ l0
          · rw [if_pos q2] at nx
            have q2 := eq_true q2
            simp! [↓wf_told_at, pd, v2, q2, hz, List.length_append]
            exact nx _ _ _ _ _ rfl
          · rw [if_neg q2] at nx
            have q2 := eq_false q2
            simp! [↓wf_told_at, pd, v2, q2]
            have g := nx (some (.un, .tuple [.int xp, .int xq, .bool xs, .int xv])) (some (.un, .int f)) (some (.un, .int l0)) (some (.un, .int r0)) _ rfl
            rw [List.map_nil, List.append_nil] at g
            exact g
  · exact h.elim

def wf_sum_of : WF := fun ds Q => match ds with
  | [(.fr, .int day), (.fr, .list ds)] => AllWd ds ∧ Clk day (ds.map winOf) ∧ ds.length ≤ 10 ^ 6 ∧ day ≤ 10 ^ 15 ∧ (ds = [] → Q .none) ∧ (ds ≠ [] → Q (.int (sumN (fun t => cF day (ds.map winOf) t - t) day.toNat)))
  | _ => False
theorem mf_sum_of : MonF wf_sum_of := by
  intro ds Q Q1 q h
  unfold wf_sum_of at h ⊢
  split at h <;> first | exact h.elim | exact q _ h | (try dsimp only) <;> (repeat' (first | exact h | exact q _ h | refine Exists.imp (fun _ h => ?_) h | refine And.imp (fun h => ?_) (fun h => ?_) h | (intro a; replace h := h a))) | grind
abbrev st_sum_of : Stmt := top 6
def m_sum_of : Mc := ⟨["day", "clock", "found", "p", "q", "still", "v", "many"], bn⟩
def b_sum_of : PSs := (.cons (.ifs (.cmp .eq (.var 1) (.lst .nil)) (.cons (.ret .non)
    .nil) .nil)
    (.cons (.asg (.nm 2) (.int 0))
    (.cons (.for (.li (.call "stretches" 2 wf_stretches (.cons (.var 0) (.cons (.var 1) .nil)))) (.tp (.cons (.nm 3) (.cons (.nm 4) (.cons (.nm 5) (.cons (.nm 6) .nil))))) (.cons (.asg (.nm 7) (.bin .add (.bin .sub (.var 4) (.var 3)) (.int 1)))
    (.cons (.asg (.nm 2) (.bin .add (.var 2) (.bin .mul (.var 7) (.var 6))))
    (.cons (.ifs (.var 5) (.cons (.asg (.nm 2) (.bin .sub (.var 2) (.bin .div (.bin .mul (.bin .add (.var 3) (.var 4)) (.var 7)) (.int 2))))
    .nil) .nil)
    .nil))))
    (.cons (.ret (.mv 2))
    .nil))))
theorem t_sum_of : Tx m_sum_of st_sum_of ["day", "clock"] b_sum_of := ⟨⟨rfl, rfl, rfl, by decide +kernel, rfl, by decide +kernel, by decide +kernel⟩, by decide +kernel, by decide +kernel⟩
theorem p_sum_of (ds : List Sl) (Q : PyData → Prop) (h : wf_sum_of ds Q) (hl : ds.length = 2) : wSs b_sum_of (fin Q) (ini 8 ds) := by
  unfold wf_sum_of at h
  split at h
  · rename_i day ds
    obtain ⟨⟨l, rfl⟩, c, hlen, hd, h1, h2⟩ := h
    rw [winOf_map] at c h2
    rw [List.length_map] at hlen
    unfold b_sum_of
    by_cases hn : l = []
    · subst hn
      simp! [eqv_nil, shaped_nil, List.isEmpty_nil]
      exact h1 rfl
    · have hn2 : l.map wd ≠ [] := fun z => hn (nil_map ▸ z)
      have e1 : (l.map wd).isEmpty = false := by rw [empty_map]; exact decide_eq_false hn
      have tl := strx_tel c hn
      have f := cF_ok c hn
      simp! [↓wf_stretches, allWd_map, winOf_map, eqv_nil, shaped_nil, shaped_lwd, e1]
      refine ⟨by omega, ?_⟩
      refine forP_ind (fun ds ρ => ∃ (l0 l' : List Part) (t : Int) (oa ob oc od oe : Option Sl), ds = (l'.map pd).map (fun d => (kp .fr d, d)) ∧ strx day l = l0 ++ l' ∧ 0 ≤ t ∧ Cov t l' day ∧
        ρ = [some (.fr, .int day), some (.fr, .list (l.map wd)), some (.un, .int (sumN (fun t => cF day l t - t) t.toNat)), oa, ob, oc, od, oe]) ?_ ?_ _ _ ⟨[], strx day l, 0, none, none, none, none, none, rfl, rfl, Int.le_refl _, strx_cov c hn, rfl⟩
      · rintro ρ ⟨l0, l', t, oa, ob, oc, od, oe, e, hf, t0, cv, rfl⟩
        cases l' with
        | cons _ _ => cases e
        | nil =>
          have cv : t = day := cv
          simp! []
          subst cv
          exact h2 hn2
      · rintro k d r ih ρ ⟨l0, l', t, oa, ob, oc, od, oe, e, hf, t0, cv, rfl⟩
        cases l' with
        | nil => cases e
        | cons x l' =>
          rw [List.map_cons, List.map_cons] at e
          injection e with e1 e2
          injection e1 with e1 e3
          subst e1 e3
          have hf' : strx day l = (l0 ++ [x]) ++ l' := by rw [hf, List.append_assoc]; rfl
          have hx : x ∈ strx day l := by rw [hf]; exact List.mem_append_right _ List.mem_cons_self
          obtain ⟨c1, c2, c3⟩ := cv
          have cle := cov_le c3
          have sp := sum_part (tl x hx) c2 (by omega)
          rw [c1] at sp
          refine forP_part ?_
          have nx := fun oa ob oc od oe => ih _ ⟨l0 ++ [x], l', x.q + 1, oa, ob, oc, od, oe, e2, hf', by omega, c3, rfl⟩
          rw [sp] at nx
          unfold addS at nx
          cases hs : x.s with
          | true =>
            rw [hs, if_pos rfl] at nx
            simp! [hs]
            rw [← Int.add_sub_assoc] at nx
            exact ⟨.inl (.inl ⟨by omega, by omega⟩), .inl (.inr ⟨by omega, by omega⟩), nx _ _ _ _ _⟩
          | false =>
            rw [hs, if_neg (by decide)] at nx
            simp! [hs]
            exact ⟨.inl (.inl ⟨by omega, by omega⟩), nx _ _ _ _ _⟩
  · exact h.elim

def wf_whole : WF := fun ds Q => match ds with
  | [(.fr, d)] => Q (.bool (isInt d))
  | _ => False
theorem mf_whole : MonF wf_whole := by
  intro ds Q Q1 q h
  unfold wf_whole at h ⊢
  split at h <;> first | exact h.elim | exact q _ h | (try dsimp only) <;> (repeat' (first | exact h | exact q _ h | refine Exists.imp (fun _ h => ?_) h | refine And.imp (fun h => ?_) (fun h => ?_) h | (intro a; replace h := h a))) | grind
abbrev st_whole : Stmt := top 8
def m_whole : Mc := ⟨["thing"], bn⟩
def b_whole : PSs := (.cons (.ret (.and (.isi 0 (.var 0)) (.one (.not (.isi 1 (.var 0))))))
    .nil)
theorem t_whole : Tx m_whole st_whole ["thing"] b_whole := ⟨⟨rfl, rfl, rfl, by decide +kernel, rfl, by decide +kernel, by decide +kernel⟩, by decide +kernel, by decide +kernel⟩
theorem p_whole (ds : List Sl) (Q : PyData → Prop) (h : wf_whole ds Q) (hl : ds.length = 1) : wSs b_whole (fin Q) (ini 1 ds) := by
  unfold wf_whole at h
  split at h
  · rename_i d
    unfold b_whole
    cases d <;> (simp! []; exact h)
  · exact h.elim

def wf_is_window : WF := fun ds Q => match ds with
  | [(.fr, .int day), (.fr, d)] => Q (.bool (isWin day d))
  | _ => False
theorem mf_is_window : MonF wf_is_window := by
  intro ds Q Q1 q h
  unfold wf_is_window at h ⊢
  split at h <;> first | exact h.elim | exact q _ h | (try dsimp only) <;> (repeat' (first | exact h | exact q _ h | refine Exists.imp (fun _ h => ?_) h | refine And.imp (fun h => ?_) (fun h => ?_) h | (intro a; replace h := h a))) | grind
abbrev st_is_window : Stmt := top 9
def m_is_window : Mc := ⟨["day", "thing", "part"], bn⟩
def b_is_window : PSs := (.cons (.ifs (.or (.not (.isi 2 (.var 1))) (.one (.cmp .ne (.cb 0 (.cons (.var 1) .nil)) (.int 3)))) (.cons (.ret (.bl false))
    .nil) .nil)
    (.cons (.for (.ti (.fz 1)) (.nm 2) (.cons (.ifs (.not (.call "whole" 1 wf_whole (.cons (.var 2) .nil))) (.cons (.ret (.bl false))
    .nil) .nil)
    .nil))
    (.cons (.ret (.and (.chain3 .le .le .lt (.int 0) (.ix (.var 1) (.int 0)) (.ix (.var 1) (.int 1)) (.var 0)) (.one (.cmp .ge (.ix (.var 1) (.int 2)) (.int 0)))))
    .nil)))
theorem t_is_window : Tx m_is_window st_is_window ["day", "thing"] b_is_window := ⟨⟨rfl, rfl, rfl, by decide +kernel, rfl, by decide +kernel, by decide +kernel⟩, by decide +kernel, by decide +kernel⟩
theorem p_is_window (ds : List Sl) (Q : PyData → Prop) (h : wf_is_window ds Q) (hl : ds.length = 2) : wSs b_is_window (fin Q) (ini 3 ds) := by
  unfold wf_is_window at h
  split at h
  · rename_i day d
    unfold b_is_window
    cases d with
    | tuple l =>
      rcases l with _ | ⟨x, _ | ⟨y, _ | ⟨z, _ | ⟨u, l⟩⟩⟩⟩
      · simp! []; rw [isWin_len (by simp)] at h; exact h
      · simp! []; rw [isWin_len (by simp)] at h; exact h
      · simp! []; rw [isWin_len (by simp)] at h; exact h
      · simp! [↓wf_whole]
        by_cases hx : isInt x = false
        · rw [if_pos hx]; rw [isWin_int (.inl hx)] at h; exact h
        rw [if_neg hx]
        by_cases hy : isInt y = false
        · rw [if_pos hy]; rw [isWin_int (.inr (.inl hy))] at h; exact h
        rw [if_neg hy]
        by_cases hz : isInt z = false
        · rw [if_pos hz]; rw [isWin_int (.inr (.inr hz))] at h; exact h
        rw [if_neg hz]
        obtain ⟨a, rfl⟩ := isInt_shape (Bool.not_eq_false _ ▸ hx)
        obtain ⟨b, rfl⟩ := isInt_shape (Bool.not_eq_false _ ▸ hy)
        obtain ⟨c, rfl⟩ := isInt_shape (Bool.not_eq_false _ ▸ hz)
        have e : isWin day (.tuple [.int a, .int b, .int c]) = (decide (0 ≤ a) && decide (a ≤ b) && decide (b < day) && decide (0 ≤ c)) := rfl
        rw [e] at h
        by_cases h1 : 0 ≤ a <;> by_cases h2 : a ≤ b <;> by_cases h3 : b < day <;> by_cases h4 : 0 ≤ c <;> simpa [h1, h2, h3, h4] using h
      · simp! []
        rw [if_pos (by omega)]
        rw [isWin_len (by simp)] at h
        exact h
    | _ => simp! []; exact h
  · exact h.elim

def wf_is_board : WF := fun ds Q => match ds with
  | [(.fr, .int day), (.fr, d)] => Q (.bool (isBoard day d))
  | _ => False
theorem mf_is_board : MonF wf_is_board := by
  intro ds Q Q1 q h
  unfold wf_is_board at h ⊢
  split at h <;> first | exact h.elim | exact q _ h | (try dsimp only) <;> (repeat' (first | exact h | exact q _ h | refine Exists.imp (fun _ h => ?_) h | refine And.imp (fun h => ?_) (fun h => ?_) h | (intro a; replace h := h a))) | grind
abbrev st_is_board : Stmt := top 10
def m_is_board : Mc := ⟨["day", "thing", "window"], bn⟩
def b_is_board : PSs := (.cons (.ifs (.not (.isi 3 (.var 1))) (.cons (.ret (.bl false))
    .nil) .nil)
    (.cons (.for (.li (.mv 1)) (.nm 2) (.cons (.ifs (.not (.call "is_window" 2 wf_is_window (.cons (.var 0) (.cons (.var 2) .nil)))) (.cons (.ret (.bl false))
    .nil) .nil)
    .nil))
    (.cons (.ret (.bl true))
    .nil)))
theorem t_is_board : Tx m_is_board st_is_board ["day", "thing"] b_is_board := ⟨⟨rfl, rfl, rfl, by decide +kernel, rfl, by decide +kernel, by decide +kernel⟩, by decide +kernel, by decide +kernel⟩
theorem p_is_board (ds : List Sl) (Q : PyData → Prop) (h : wf_is_board ds Q) (hl : ds.length = 2) : wSs b_is_board (fin Q) (ini 3 ds) := by
  unfold wf_is_board at h
  split at h
  · rename_i day d
    unfold b_is_board
    cases d with
    | list l =>
      simp! []
      refine forP_ind (fun ds ρ => ∃ (l' : List PyData) (o : Option Sl), ds = l'.map (fun d => (kp .fr d, d)) ∧ ρ = [some (.fr, .int day), some (.fr, .list l), o] ∧ Q (.bool (l'.all (isWin day)))) ?_ ?_ _ _ ⟨l, none, rfl, rfl, h⟩
      · rintro ρ ⟨l', o, e, rfl, q⟩
        cases l' with
        | nil => simp! []; exact q
        | cons _ _ => cases e
      · rintro k d r ih ρ ⟨l', o, e, rfl, q⟩
        cases l' with
        | nil => cases e
        | cons x l' =>
          rw [List.map_cons] at e
          injection e with e1 e2
          injection e1 with e1 e3
          subst e1 e3
          rw [List.all_cons] at q
          simp! [↓wf_is_window]
          split
          · rename_i c; rw [c] at q; exact q
          · rename_i c
            rw [Bool.not_eq_false] at c
            rw [c, Bool.true_and] at q
            exact ih _ ⟨l', _, e2, rfl, q⟩
    | _ => simp! []; exact h
  · exact h.elim

def wf_chosen : WF := fun ds Q => match ds with
  | [(.fr, .int p), (.fr, .int q), (.fr, .tuple [.int a, .int b, .bool s, .int v]), (.fr, .tuple [.int a', .int b', .bool s', .int v']), (.fr, .bool soon)] => p ≤ q ∧ ∀ ps, Cho (pick soon) p q ⟨a, b, s, v⟩ ⟨a', b', s', v'⟩ ps → Q (.list (ps.map pd))
  | _ => False
theorem mf_chosen : MonF wf_chosen := by
  intro ds Q Q1 q h
  unfold wf_chosen at h ⊢
  split at h <;> first | exact h.elim | exact q _ h | (try dsimp only) <;> (repeat' (first | exact h | exact q _ h | refine Exists.imp (fun _ h => ?_) h | refine And.imp (fun h => ?_) (fun h => ?_) h | (intro a; replace h := h a))) | grind
abbrev st_chosen : Stmt := top 15
def m_chosen : Mc := ⟨["p", "q", "one", "other", "soon", "still", "going", "even", "parts"], bn⟩
def b_chosen : PSs := (.cons (.ifs (.cmp .eq (.ix (.var 2) (.int 2)) (.ix (.var 3) (.int 2))) (.cons (.ifs (.var 4) (.cons (.ret (.lst (.cons (.tup (.cons (.mv 0) (.cons (.mv 1) (.cons (.ix (.var 2) (.int 2)) (.cons (.cb 2 (.cons (.ix (.var 2) (.int 3)) (.cons (.ix (.var 3) (.int 3)) .nil))) .nil))))) .nil)))
    .nil) .nil)
    (.cons (.ret (.lst (.cons (.tup (.cons (.mv 0) (.cons (.mv 1) (.cons (.ix (.var 2) (.int 2)) (.cons (.cb 1 (.cons (.ix (.var 2) (.int 3)) (.cons (.ix (.var 3) (.int 3)) .nil))) .nil))))) .nil)))
    .nil)) .nil)
    (.cons (.asg (.nm 5) (.ife (.ix (.var 2) (.int 2)) (.ix (.var 2) (.int 3)) (.ix (.var 3) (.int 3))))
    (.cons (.asg (.nm 6) (.ife (.ix (.var 2) (.int 2)) (.ix (.var 3) (.int 3)) (.ix (.var 2) (.int 3))))
    (.cons (.asg (.nm 7) (.bin .sub (.var 5) (.var 6)))
    (.cons (.asg (.nm 8) (.lst .nil))
    (.cons (.ifs (.cmp .le (.var 0) (.var 7)) (.cons (.app 8 (.tup (.cons (.fz 0) (.cons (.cb 2 (.cons (.var 1) (.cons (.var 7) .nil))) (.cons (.not (.var 4)) (.cons (.ife (.var 4) (.fz 6) (.fz 5)) .nil))))))
    .nil) .nil)
    (.cons (.ifs (.cmp .lt (.var 7) (.var 1)) (.cons (.app 8 (.tup (.cons (.cb 1 (.cons (.var 0) (.cons (.bin .add (.var 7) (.int 1)) .nil))) (.cons (.mv 1) (.cons (.fz 4) (.cons (.ife (.var 4) (.mv 5) (.mv 6)) .nil))))))
    .nil) .nil)
    (.cons (.ret (.mv 8))
    .nil))))))))
theorem t_chosen : Tx m_chosen st_chosen ["p", "q", "one", "other", "soon"] b_chosen := ⟨⟨rfl, rfl, rfl, by decide +kernel, rfl, by decide +kernel, by decide +kernel⟩, by decide +kernel, by decide +kernel⟩
theorem p_chosen (ds : List Sl) (Q : PyData → Prop) (h : wf_chosen ds Q) (hl : ds.length = 5) : wSs b_chosen (fin Q) (ini 9 ds) := by
  unfold wf_chosen at h
  split at h
  · rename_i p q a b s v a' b' s' v' soon
    obtain ⟨le, h⟩ := h
    unfold b_chosen
    by_cases e : s = s'
    · subst e
      have g := h _ (cho_same le)
      refine cutN 1 _ (fun ρ => False) (by simp only [tkP, cSs, cSt, cOk, cPC, pthX, cAs, cOo, cIt, okM, mf_gs, implies_true, and_true, and_self, true_and]) ?_ (fun _ z => z.elim)
      simp only [tkP]
      cases soon
      · simp! [eqv_bool]
        exact g
      · simp! [eqv_bool]
        exact g
    · have eb : PyData.eqv (.bool s) (.bool s') = false := by rw [eqv_bool]; exact decide_eq_false e
      refine cutN 5 _ (fun ρ => ∃ st go : Int, (∀ m, pick soon (val ⟨a, b, s, v⟩ m) (val ⟨a', b', s', v'⟩ m) = pick soon st (m + go)) ∧ ρ = [some (.fr, .int p), some (.fr, .int q), some (.fr, .tuple [.int a, .int b, .bool s, .int v]), some (.fr, .tuple [.int a', .int b', .bool s', .int v']), some (.fr, .bool soon),
        some (.un, .int st), some (.un, .int go), some (.un, .int (st - go)), some (.un, .list [])]) (by simp only [tkP, cSs, cSt, cOk, cPC, pthX, cAs, cOo, cIt, okM, mf_gs, implies_true, and_true, and_self, true_and]) ?_ ?_
      · simp only [tkP]
        cases s <;> cases s' <;> first | exact absurd rfl e | skip
        · simp! [eb]
          exact ⟨v', v, fun m => pick_comm _ _ _, rfl⟩
        · simp! [eb]
          exact ⟨v, v', fun m => rfl, rfl⟩
      · rintro ρ ⟨st, go, hv, rfl⟩
        have g := h _ (cho_mix le hv)
        unfold mix at g
        rw [List.map_append] at g
        simp only [dpP]
        by_cases h1 : p ≤ st - go
        · have h1 := eq_true h1
          by_cases h2 : st - go < q
          · have h2 := eq_true h2
            simp only [h1, h2, if_true, List.map_cons, List.map_nil, List.singleton_append, pd] at g
            cases soon
            · simp! [h1, h2]
              exact g
            · simp! [h1, h2]
              exact g
          · have h2 := eq_false h2
            simp only [h1, h2, if_true, if_false, List.map_cons, List.map_nil, List.append_nil, pd] at g
            cases soon
            · simp! [h1, h2]
              exact g
            · simp! [h1, h2]
              exact g
        · have h2 : (st - go < q) = True := eq_true (by omega)
          have h1 := eq_false h1
          simp only [h1, h2, if_true, if_false, List.map_cons, List.map_nil, List.nil_append, pd] at g
          cases soon
          · simp! [h1, h2]
            exact g
          · simp! [h1, h2]
            exact g
  · exact h.elim

def wf_blended : WF := fun ds Q => match ds with
  | [(.fr, .list ds), (.fr, .list es), (.fr, .bool soon)] => ∃ (l m : List Part) (e : Int), ds = l.map pd ∧ es = m.map pd ∧ l.length ≤ 10 ^ 5 ∧ m.length ≤ 10 ^ 5 ∧ Cov 0 l e ∧ Cov 0 m e ∧
      ∀ ps, Cov 0 ps e → ps.length ≤ 2 * (l.length + m.length) → (∀ F G, Tel F l → Tel G m → Tel (fun t => pick soon (F t) (G t)) ps) → Q (.list (ps.map pd))
  | _ => False
theorem mf_blended : MonF wf_blended := by
  intro ds Q Q1 q h
  unfold wf_blended at h ⊢
  split at h <;> first | exact h.elim | exact q _ h | (try dsimp only) <;> (repeat' (first | exact h | exact q _ h | refine Exists.imp (fun _ h => ?_) h | refine And.imp (fun h => ?_) (fun h => ?_) h | (intro a; replace h := h a))) | grind
abbrev st_blended : Stmt := top 16
def m_blended : Mc := ⟨["ones", "others", "soon", "parts", "i", "j", "p", "q"], bn⟩
def b_blended : PSs := (.cons (.asg (.nm 3) (.lst .nil))
    (.cons (.asg (.nm 4) (.int 0))
    (.cons (.asg (.nm 5) (.int 0))
    (.cons (.asg (.nm 6) (.int 0))
    (.cons (.whl (.cmp .lt (.var 4) (.cb 0 (.cons (.var 0) .nil))) (.cons (.asg (.nm 7) (.cb 2 (.cons (.ix (.ix (.var 0) (.var 4)) (.int 1)) (.cons (.ix (.ix (.var 1) (.var 5)) (.int 1)) .nil))))
    (.cons (.ext 3 (.call "chosen" 5 wf_chosen (.cons (.var 6) (.cons (.var 7) (.cons (.ix (.var 0) (.var 4)) (.cons (.ix (.var 1) (.var 5)) (.cons (.var 2) .nil)))))))
    (.cons (.asg (.nm 6) (.bin .add (.var 7) (.int 1)))
    (.cons (.ifs (.cmp .eq (.ix (.ix (.var 1) (.var 5)) (.int 1)) (.var 7)) (.cons (.asg (.nm 5) (.bin .add (.var 5) (.int 1)))
    .nil) .nil)
    (.cons (.ifs (.cmp .eq (.ix (.ix (.var 0) (.var 4)) (.int 1)) (.var 7)) (.cons (.asg (.nm 4) (.bin .add (.var 4) (.int 1)))
    .nil) .nil)
    .nil))))))
    (.cons (.ret (.mv 3))
    .nil))))))
theorem t_blended : Tx m_blended st_blended ["ones", "others", "soon"] b_blended := ⟨⟨rfl, rfl, rfl, by decide +kernel, rfl, by decide +kernel, by decide +kernel⟩, by decide +kernel, by decide +kernel⟩
theorem p_blended (ds : List Sl) (Q : PyData → Prop) (h : wf_blended ds Q) (hl : ds.length = 3) : wSs b_blended (fin Q) (ini 8 ds) := by
  unfold wf_blended at h
  split at h
  · rename_i ds es soon
    obtain ⟨l, m, e, rfl, rfl, ll, lm, cl, cm, h⟩ := h
    unfold b_blended
    simp! []
    refine whlP_ind (fun n ρ => ∃ (o0 o1 t0 t1 acc : List Part) (p : Int) (oq : Option Sl), n = o1.length + t1.length ∧ Bl soon l m e o0 o1 t0 t1 acc p ∧
      ρ = [some (.fr, .list (l.map pd)), some (.fr, .list (m.map pd)), some (.fr, .bool soon), some (.un, .list (acc.map pd)), some (.un, .int o0.length), some (.un, .int t0.length), some (.un, .int p), oq]) _ ⟨[], l, [], m, [], 0, none, rfl, bl_start cl cm, rfl⟩ ?_
    rintro n ρ ⟨o0, o1, t0, t1, acc, p, oq, rfl, b, rfl⟩
    have el := b.el
    have em := b.em
    have hlen := b.len
    have e1 : l.length = o0.length + o1.length := by rw [el, List.length_append]
    have e2 : m.length = t0.length + t1.length := by rw [em, List.length_append]
    cases o1 with
    | nil =>
      have e3 : ((o0.length : Int) < (l.length : Int)) = False := eq_false (by rw [List.length_nil] at e1; omega)
      simp! [e3]
      exact h acc (bl_end b) (by omega) b.tel
    | cons x r =>
      obtain ⟨y, s, rfl⟩ := bl_more b
      rw [List.length_cons] at e1 e2
      have e3 : ((o0.length : Int) < (l.length : Int)) = True := eq_true (by omega)
      have gx : l[(o0.length : Int).toNat]'(by omega) = x := by simp [el]
      have gy : m[(t0.length : Int).toNat]'(by omega) = y := by simp [em]
      generalize hB : wSs (.cons _ _) _ = B
      simp! [e3]
      subst hB
      refine cutN 1 _ (fun ρ => ρ = [some (.fr, .list (l.map pd)), some (.fr, .list (m.map pd)), some (.fr, .bool soon), some (.un, .list (acc.map pd)), some (.un, .int o0.length), some (.un, .int t0.length), some (.un, .int p), some (.un, .int (if y.q < x.q then y.q else x.q))]) (by simp only [tkP, cSs, cSt, cOk, cPC, pthX, cAs, cOo, cIt, okM, mf_gs, implies_true, mf_chosen, and_true, and_self, true_and]) (by simp only [tkP]; simp! [fun K => wAt_map pd l (i := (o0.length : Int)) K (by omega) (by omega), fun K => wAt_map pd m (i := (t0.length : Int)) K (by omega) (by omega), gx, gy, pd]) ?_
      rintro ρ rfl
      simp only [dpP]
      have pq : p ≤ if y.q < x.q then y.q else x.q := by have := b.ol.2.1; have := b.om.2.1; split <;> omega
      have bs := fun ps => bl_step b (ps := ps)
      have z0 : ¬ y.q = (if y.q < x.q then y.q else x.q) → x.q = (if y.q < x.q then y.q else x.q) := by split <;> omega
      generalize (if y.q < x.q then y.q else x.q) = qq at *
      refine cutN 1 _ (fun ρ => ∃ ps, Cho (pick soon) p qq x y ps ∧ ρ = [some (.fr, .list (l.map pd)), some (.fr, .list (m.map pd)), some (.fr, .bool soon), some (.un, .list ((acc ++ ps).map pd)), some (.un, .int o0.length), some (.un, .int t0.length), some (.un, .int p), some (.un, .int qq)]) (by simp only [tkP, cSs, cSt, cOk, cPC, pthX, cAs, cOo, cIt, okM, mf_gs, implies_true, mf_chosen, and_true, and_self, true_and]) ?_ ?_
      · simp only [tkP]
        simp! [fun K => wAt_map pd l (i := (o0.length : Int)) K (by omega) (by omega), fun K => wAt_map pd m (i := (t0.length : Int)) K (by omega) (by omega), gx, gy, pd, ↓wf_chosen]
        refine ⟨pq, fun ps c => ?_⟩
        have c2 := c.len
        exact ⟨by omega, ps, c, by rw [List.map_append]⟩
      rintro ρ ⟨ps, c, rfl⟩
      simp only [dpP]
      have bs := bs ps c
      clear c pq
      refine cutN 1 _ (fun ρ => ρ = [some (.fr, .list (l.map pd)), some (.fr, .list (m.map pd)), some (.fr, .bool soon), some (.un, .list ((acc ++ ps).map pd)), some (.un, .int o0.length), some (.un, .int t0.length), some (.un, .int (qq + 1)), some (.un, .int qq)]) (by simp only [tkP, cSs, cSt, cOk, cPC, pthX, cAs, cOo, cIt, okM, mf_gs, implies_true, mf_chosen, and_true, and_self, true_and]) (by simp only [tkP]; simp! []) ?_
      rintro ρ rfl
      simp only [dpP]
      by_cases z : y.q = qq
      · rw [if_pos z, if_pos z] at bs
        have z' := eq_true z
        by_cases z2 : x.q = qq
        · rw [if_pos z2, if_pos z2] at bs
          have z2' := eq_true z2
          simp! [fun K => wAt_map pd l (i := (o0.length : Int)) K (by omega) (by omega), fun K => wAt_map pd m (i := (t0.length : Int)) K (by omega) (by omega), gx, gy, pd, z', z2']
          refine ⟨r.length + s.length, by omega, _, _, _, _, _, _, some (.un, .int qq), rfl, bs, ?_⟩
          simp only [List.length_append, List.length_singleton, Int.natCast_add, Int.cast_ofNat_Int]
        · rw [if_neg z2, if_neg z2] at bs
          have z2' := eq_false z2
          simp! [fun K => wAt_map pd l (i := (o0.length : Int)) K (by omega) (by omega), fun K => wAt_map pd m (i := (t0.length : Int)) K (by omega) (by omega), gx, gy, pd, z', z2']
          refine ⟨(x :: r).length + s.length, by rw [List.length_cons]; omega, _, _, _, _, _, _, some (.un, .int qq), rfl, bs, ?_⟩
          simp only [List.length_append, List.length_singleton, Int.natCast_add, Int.cast_ofNat_Int]
      · rw [if_neg z, if_neg z] at bs
        have z' := eq_false z
        have z2 := z0 z
        rw [if_pos z2, if_pos z2] at bs
        have z2' := eq_true z2
        simp! [fun K => wAt_map pd l (i := (o0.length : Int)) K (by omega) (by omega), fun K => wAt_map pd m (i := (t0.length : Int)) K (by omega) (by omega), gx, gy, pd, z', z2']
        refine ⟨r.length + (y :: s).length, by rw [List.length_cons]; omega, _, _, _, _, _, _, some (.un, .int qq), rfl, bs, ?_⟩
        simp only [List.length_append, List.length_singleton, Int.natCast_add, Int.cast_ofNat_Int]
  · exact h.elim

def wf_sooner : WF := fun ds Q => match ds with
  | [(.fr, .int day), (.fr, .list ds), (.fr, .list es)] => AllWd ds ∧ AllWd es ∧ Clk day (ds.map winOf) ∧ Clk day (es.map winOf) ∧ ds.length ≤ 40000 ∧ es.length ≤ 40000 ∧
      ∀ R, SoonR day (ds.map winOf) (es.map winOf) R → R.length ≤ 4 * (ds.length + es.length) + 4 → Q (.list (R.map wd))
  | _ => False
theorem mf_sooner : MonF wf_sooner := by
  intro ds Q Q1 q h
  unfold wf_sooner at h ⊢
  split at h <;> first | exact h.elim | exact q _ h | (try dsimp only) <;> (repeat' (first | exact h | exact q _ h | refine Exists.imp (fun _ h => ?_) h | refine And.imp (fun h => ?_) (fun h => ?_) h | (intro a; replace h := h a))) | grind
abbrev st_sooner : Stmt := top 17
def m_sooner : Mc := ⟨["day", "one", "other"], bn⟩
def b_sooner : PSs := (.cons (.ifs (.cmp .eq (.var 1) (.lst .nil)) (.cons (.ret (.cb 3 (.cons (.var 2) .nil)))
    .nil) .nil)
    (.cons (.ifs (.cmp .eq (.var 2) (.lst .nil)) (.cons (.ret (.cb 3 (.cons (.var 1) .nil)))
    .nil) .nil)
    (.cons (.ret (.call "gathered" 2 wf_gathered (.cons (.var 0) (.cons (.call "blended" 3 wf_blended (.cons (.call "stretches" 2 wf_stretches (.cons (.var 0) (.cons (.var 1) .nil))) (.cons (.call "stretches" 2 wf_stretches (.cons (.var 0) (.cons (.var 2) .nil))) (.cons (.bl true) .nil)))) .nil))))
    .nil)))
theorem t_sooner : Tx m_sooner st_sooner ["day", "one", "other"] b_sooner := ⟨⟨rfl, rfl, rfl, by decide +kernel, rfl, by decide +kernel, by decide +kernel⟩, by decide +kernel, by decide +kernel⟩
theorem p_sooner (ds : List Sl) (Q : PyData → Prop) (h : wf_sooner ds Q) (hl : ds.length = 3) : wSs b_sooner (fin Q) (ini 3 ds) := by
  unfold wf_sooner at h
  split at h
  · rename_i day ds es
    obtain ⟨⟨l, rfl⟩, ⟨m, rfl⟩, c, d, ll, lm, h⟩ := h
    simp only [winOf_map, List.length_map] at c d ll lm h
    unfold b_sooner
    by_cases hn : l = []
    · subst hn
      simp! [shaped_nil, eqv_nil, List.isEmpty_nil, flats_wd]
      exact h m ⟨fun _ => rfl, fun e => e, fun e => absurd rfl e⟩ (by omega)
    · have e1 : (l.map wd).isEmpty = false := by cases l <;> first | exact absurd rfl hn | rfl
      by_cases hm : m = []
      · subst hm
        simp! [shaped_nil, shaped_lwd, eqv_nil, e1, List.isEmpty_nil, flats_wd]
        exact h l ⟨fun e => absurd e hn, fun _ => rfl, fun _ e => absurd rfl e⟩ (by omega)
      · have e2 : (m.map wd).isEmpty = false := by cases m <;> first | exact absurd rfl hm | rfl
        have s1 := strx_len day l
        have s2 := strx_len day m
        simp! [shaped_nil, shaped_lwd, eqv_nil, e1, e2, ↓wf_stretches, ↓wf_blended, ↓wf_gathered, allWd_map, winOf_map]
        have f := cF_ok c hn
        have g := cF_ok d hm
        refine ⟨by omega, by omega, strx day l, strx day m, day, rfl, rfl, by omega, by omega, strx_cov c hn, strx_cov d hm, fun ps cov len tel => ?_⟩
        have np : ps ≠ [] := fun z => by subst z; have q : (0 : Int) = day := cov; have := f.pos; omega
        exact ⟨_, ps, rfl, np, by omega, f.pick g true, cov, tel _ _ (strx_tel c hn) (strx_tel d hm), fun R k len => h R ⟨fun e => absurd e hn, fun e => absurd e hm, fun _ _ => k⟩ (by omega)⟩
  · exact h.elim

def wf_clock_of : WF := fun ds Q => match ds with
  | [(.fr, .int day), (.fr, .list ds)] => AllWd ds ∧ (∀ w ∈ ds.map winOf, Good day w) ∧ ds.length ≤ 9000 ∧ ∀ R, BrdR day (ds.map winOf) R → R.length ≤ 2 * ds.length + 1 → Q (.list (R.map wd))
  | _ => False
theorem mf_clock_of : MonF wf_clock_of := by
  intro ds Q Q1 q h
  unfold wf_clock_of at h ⊢
  split at h <;> first | exact h.elim | exact q _ h | (try dsimp only) <;> (repeat' (first | exact h | exact q _ h | refine Exists.imp (fun _ h => ?_) h | refine And.imp (fun h => ?_) (fun h => ?_) h | (intro a; replace h := h a))) | grind
abbrev st_clock_of : Stmt := top 18
def m_clock_of : Mc := ⟨["day", "board", "found", "window"], bn⟩
def b_clock_of : PSs := (.cons (.ifs (.not (.call "is_board" 2 wf_is_board (.cons (.var 0) (.cons (.var 1) .nil)))) (.cons .never
    .nil) .nil)
    (.cons (.asg (.nm 2) (.lst .nil))
    (.cons (.for (.li (.mv 1)) (.nm 3) (.cons (.asg (.nm 2) (.call "sooner" 3 wf_sooner (.cons (.var 0) (.cons (.var 2) (.cons (.lst (.cons (.mv 3) .nil)) .nil)))))
    .nil))
    (.cons (.ret (.mv 2))
    .nil))))
theorem t_clock_of : Tx m_clock_of st_clock_of ["day", "board"] b_clock_of := ⟨⟨rfl, rfl, rfl, by decide +kernel, rfl, by decide +kernel, by decide +kernel⟩, by decide +kernel, by decide +kernel⟩
theorem p_clock_of (ds : List Sl) (Q : PyData → Prop) (h : wf_clock_of ds Q) (hl : ds.length = 2) : wSs b_clock_of (fin Q) (ini 4 ds) := by
  unfold wf_clock_of at h
  split at h
  · rename_i day ds
    obtain ⟨⟨l, rfl⟩, hg, hlen, h⟩ := h
    simp only [winOf_map, List.length_map] at hg hlen h
    have bo := board_ok hg
    unfold b_clock_of
    simp! [↓wf_is_board, bo]
    refine forP_ind (fun ds ρ => ∃ (l0 l' R : List Win) (o : Option Sl), ds = (l'.map wd).map (fun d => (kp .fr d, d)) ∧ l = l0 ++ l' ∧ Brd day l0 R ∧
      ρ = [some (.fr, .int day), some (.fr, .list (l.map wd)), some (.un, .list (R.map wd)), o]) ?_ ?_ _ _ ⟨[], l, [], none, rfl, rfl, brd_nil day, rfl⟩
    · rintro ρ ⟨l0, l', R, o, e, hf, b, rfl⟩
      cases l' with
      | cons _ _ => cases e
      | nil =>
        rw [List.append_nil] at hf
        subst hf
        simp! []
        exact h R b.r b.len
    · rintro k d r ih ρ ⟨l0, l', R, o, e, hf, b, rfl⟩
      cases l' with
      | nil => cases e
      | cons w l' =>
        rw [List.map_cons, List.map_cons] at e
        injection e with e1 e2
        injection e1 with e1 e3
        subst e1 e3
        have hlt : l0.length < l.length := by rw [hf, List.length_append, List.length_cons]; omega
        have hw : Good day w := hg w (by rw [hf]; exact List.mem_append_right _ List.mem_cons_self)
        have lb := b.len
        have ck := b.clk
        simp! [flat_wd, allWd_one, ↓wf_sooner, allWd_map, winOf_map, winOf_wd]
        exact ⟨⟨[w], rfl⟩, ck, clk_one hw, by omega, fun R' s len => ih _ ⟨l0 ++ [w], l', R', _, e2, by rw [hf, List.append_assoc]; rfl, brd_step b hw s, rfl⟩⟩
  · exact h.elim

def wf__law_cell_at : WF := fun ds Q => match ds with
  | [(.ro, .list ds), (.fr, .int k)] => isInts ds ∧ 0 ≤ k ∧ ∀ c, Q (.int c)
  | _ => False
theorem mf__law_cell_at : MonF wf__law_cell_at := by
  intro ds Q Q1 q h
  unfold wf__law_cell_at at h ⊢
  split at h <;> first | exact h.elim | exact q _ h | (try dsimp only) <;> (repeat' (first | exact h | exact q _ h | refine Exists.imp (fun _ h => ?_) h | refine And.imp (fun h => ?_) (fun h => ?_) h | (intro a; replace h := h a))) | grind
abbrev st__law_cell_at : Stmt := top 20
def m__law_cell_at : Mc := ⟨["script", "k"], bn⟩
def b__law_cell_at : PSs := (.cons (.ifs (.cmp .lt (.var 1) (.cb 0 (.cons (.var 0) .nil))) (.cons (.ret (.ix (.var 0) (.var 1)))
    .nil) .nil)
    (.cons (.ret (.int 0))
    .nil))
theorem t__law_cell_at : Tx m__law_cell_at st__law_cell_at ["script", "k"] b__law_cell_at := ⟨⟨rfl, rfl, rfl, by decide +kernel, rfl, by decide +kernel, by decide +kernel⟩, by decide +kernel, by decide +kernel⟩
theorem p__law_cell_at (ds : List Sl) (Q : PyData → Prop) (h : wf__law_cell_at ds Q) (hl : ds.length = 2) : wSs b__law_cell_at (fin Q) (ini 2 ds) := by
  unfold wf__law_cell_at at h
  split at h
  · rename_i ds k
    obtain ⟨⟨ns, rfl⟩, h0, h⟩ := h
    unfold b__law_cell_at
    simp! []
    split
    · rename_i h1
      rw [wAt_map _ _ _ h0 h1]
      simp! []
      exact h _
    · exact h 0
  · exact h.elim

def wf__law_day : WF := fun ds Q => match ds with
  | [(.fr, .int _)] => ∀ d, 1 ≤ d → d ≤ 10 ^ 15 → Q (.int d)
  | _ => False
theorem mf__law_day : MonF wf__law_day := by
  intro ds Q Q1 q h
  unfold wf__law_day at h ⊢
  split at h <;> first | exact h.elim | exact q _ h | (try dsimp only) <;> (repeat' (first | exact h | exact q _ h | refine Exists.imp (fun _ h => ?_) h | refine And.imp (fun h => ?_) (fun h => ?_) h | (intro a; replace h := h a))) | grind
abbrev st__law_day : Stmt := top 21
def m__law_day : Mc := ⟨["cell"], bn⟩
def b__law_day : PSs := (.cons (.ifs (.cmp .eq (.bin .mod (.var 0) (.int 8)) (.int 7)) (.cons (.ret (.bin .add (.int 1) (.bin .mod (.bin .div (.var 0) (.int 8)) (.bin .pow (.int 10) (.int 15)))))
    .nil) .nil)
    (.cons (.ret (.ix (.lst (.cons (.int 1) (.cons (.int 2) (.cons (.int 24) (.cons (.int 12) (.cons (.int 1440) (.cons (.bin .add (.bin .pow (.int 10) (.int 9)) (.int 7)) (.cons (.bin .pow (.int 10) (.int 15)) .nil)))))))) (.bin .mod (.var 0) (.int 8))))
    .nil))
theorem t__law_day : Tx m__law_day st__law_day ["cell"] b__law_day := ⟨⟨rfl, rfl, rfl, by decide +kernel, rfl, by decide +kernel, by decide +kernel⟩, by decide +kernel, by decide +kernel⟩
theorem p__law_day (ds : List Sl) (Q : PyData → Prop) (h : wf__law_day ds Q) (hl : ds.length = 1) : wSs b__law_day (fin Q) (ini 1 ds) := by
  unfold wf__law_day at h
  split at h
  · rename_i c
    unfold b__law_day
    by_cases c1 : c % 8 = 7
    · have c2 := eq_true c1
      simp! [c2]
      exact h _ (by omega) (by omega)
    · have c2 := eq_false c1
      have h0 : 0 ≤ c % 8 := by omega
      have h1 : c % 8 < 7 := by omega
      simp! [c2, wAt_i7 h0 h1]
      have m := getD_mem ([1, 2, 24, 12, 1440, 1000000007, 1000000000000000] : List Int) (i := (c % 8).toNat) (by simp only [List.length_cons, List.length_nil]; omega)
      simp only [List.mem_cons, List.not_mem_nil, or_false] at m
      exact h _ (by omega) (by omega)
  · exact h.elim

def wf__law_stay : WF := fun ds Q => match ds with
  | [(.fr, .int _), (.fr, .int room)] => 0 < room ∧ ∀ s, 0 ≤ s → s < room → Q (.int s)
  | _ => False
theorem mf__law_stay : MonF wf__law_stay := by
  intro ds Q Q1 q h
  unfold wf__law_stay at h ⊢
  split at h <;> first | exact h.elim | exact q _ h | (try dsimp only) <;> (repeat' (first | exact h | exact q _ h | refine Exists.imp (fun _ h => ?_) h | refine And.imp (fun h => ?_) (fun h => ?_) h | (intro a; replace h := h a))) | grind
abbrev st__law_stay : Stmt := top 22
def m__law_stay : Mc := ⟨["cell", "room"], bn⟩
def b__law_stay : PSs := (.cons (.ifs (.cmp .eq (.bin .mod (.var 0) (.int 3)) (.int 0)) (.cons (.ret (.int 0))
    .nil) .nil)
    (.cons (.ifs (.cmp .eq (.bin .mod (.var 0) (.int 3)) (.int 1)) (.cons (.ret (.bin .mod (.bin .div (.var 0) (.int 3)) (.cb 2 (.cons (.int 4) (.cons (.var 1) .nil)))))
    .nil) .nil)
    (.cons (.ret (.bin .mod (.bin .div (.var 0) (.int 3)) (.var 1)))
    .nil)))
theorem t__law_stay : Tx m__law_stay st__law_stay ["cell", "room"] b__law_stay := ⟨⟨rfl, rfl, rfl, by decide +kernel, rfl, by decide +kernel, by decide +kernel⟩, by decide +kernel, by decide +kernel⟩
theorem p__law_stay (ds : List Sl) (Q : PyData → Prop) (h : wf__law_stay ds Q) (hl : ds.length = 2) : wSs b__law_stay (fin Q) (ini 2 ds) := by
  unfold wf__law_stay at h
  split at h
  · rename_i c room
    obtain ⟨r0, h⟩ := h
    have e4 : 0 < (if room < 4 then room else 4) ∧ (if room < 4 then room else 4) ≤ room := by split <;> omega
    unfold b__law_stay
    simp! []
    generalize (if room < 4 then room else 4) = D at *
    split
    · exact h _ (by omega) (by omega)
    · split
      · have a0 := Int.emod_nonneg (c / 3) (show D ≠ 0 by omega)
        have a1 := Int.emod_lt_of_pos (c / 3) (show 0 < D by omega)
        exact ⟨by omega, h _ (by omega) (by omega)⟩
      · have a0 := Int.emod_nonneg (c / 3) (show room ≠ 0 by omega)
        have a1 := Int.emod_lt_of_pos (c / 3) r0
        exact ⟨by omega, h _ (by omega) (by omega)⟩
  · exact h.elim

def wf__law_ride : WF := fun ds Q => match ds with
  | [(.fr, .int _), (.fr, .int day)] => 1 ≤ day ∧ day ≤ 10 ^ 15 ∧ ∀ s, 0 ≤ s → Q (.int s)
  | _ => False
theorem mf__law_ride : MonF wf__law_ride := by
  intro ds Q Q1 q h
  unfold wf__law_ride at h ⊢
  split at h <;> first | exact h.elim | exact q _ h | (try dsimp only) <;> (repeat' (first | exact h | exact q _ h | refine Exists.imp (fun _ h => ?_) h | refine And.imp (fun h => ?_) (fun h => ?_) h | (intro a; replace h := h a))) | grind
abbrev st__law_ride : Stmt := top 23
def m__law_ride : Mc := ⟨["cell", "day"], bn⟩
def b__law_ride : PSs := (.cons (.ret (.bin .mod (.bin .div (.var 0) (.int 4)) (.ix (.lst (.cons (.int 3) (.cons (.int 8) (.cons (.bin .add (.bin .mul (.int 2) (.var 1)) (.int 1)) (.cons (.bin .pow (.int 10) (.int 15)) .nil))))) (.bin .mod (.var 0) (.int 4)))))
    .nil)
theorem t__law_ride : Tx m__law_ride st__law_ride ["cell", "day"] b__law_ride := ⟨⟨rfl, rfl, rfl, by decide +kernel, rfl, by decide +kernel, by decide +kernel⟩, by decide +kernel, by decide +kernel⟩
theorem p__law_ride (ds : List Sl) (Q : PyData → Prop) (h : wf__law_ride ds Q) (hl : ds.length = 2) : wSs b__law_ride (fin Q) (ini 2 ds) := by
  unfold wf__law_ride at h
  split at h
  · rename_i c day
    obtain ⟨r0, r1, h⟩ := h
    unfold b__law_ride
    simp! []
    have m := getD_mem ([3, 8, 2 * day + 1, 1000000000000000] : List Int) (i := (c % 4).toNat) (by simp only [List.length_cons, List.length_nil]; omega)
    simp only [List.mem_cons, List.not_mem_nil, or_false] at m
    have a0 := Int.emod_nonneg (c / 4) (show ([3, 8, 2 * day + 1, 1000000000000000] : List Int).getD (c % 4).toNat 0 ≠ 0 by omega)
    exact ⟨by omega, h _ a0⟩
  · exact h.elim

def wf__law_many : WF := fun ds Q => match ds with
  | [(.ro, .list ds), (.fr, .int most)] => isInts ds ∧ 5 ≤ most ∧ ∀ s, 0 ≤ s → s ≤ most → Q (.int s)
  | _ => False
theorem mf__law_many : MonF wf__law_many := by
  intro ds Q Q1 q h
  unfold wf__law_many at h ⊢
  split at h <;> first | exact h.elim | exact q _ h | (try dsimp only) <;> (repeat' (first | exact h | exact q _ h | refine Exists.imp (fun _ h => ?_) h | refine And.imp (fun h => ?_) (fun h => ?_) h | (intro a; replace h := h a))) | grind
abbrev st__law_many : Stmt := top 24
def m__law_many : Mc := ⟨["script", "most", "mixed"], bn⟩
def b__law_many : PSs := (.cons (.asg (.nm 2) (.bin .mod (.bin .mul (.call "_law_cell_at" 2 wf__law_cell_at (.cons (.var 0) (.cons (.int 0) .nil))) (.int 48271)) (.int 65537)))
    (.cons (.ret (.ix (.lst (.cons (.fz 1) (.cons (.int 3) (.cons (.fz 1) (.cons (.int 1) (.cons (.mv 1) (.cons (.int 2) (.cons (.int 0) (.cons (.int 5) .nil))))))))) (.bin .mod (.bin .div (.var 2) (.int 8)) (.int 8))))
    .nil))
theorem t__law_many : Tx m__law_many st__law_many ["script", "most"] b__law_many := ⟨⟨rfl, rfl, rfl, by decide +kernel, rfl, by decide +kernel, by decide +kernel⟩, by decide +kernel, by decide +kernel⟩
theorem p__law_many (ds : List Sl) (Q : PyData → Prop) (h : wf__law_many ds Q) (hl : ds.length = 2) : wSs b__law_many (fin Q) (ini 3 ds) := by
  unfold wf__law_many at h
  split at h
  · rename_i ds most
    obtain ⟨⟨ns, rfl⟩, r1, h⟩ := h
    unfold b__law_many
    simp! [↓wf__law_cell_at]
    intro c
    have m := getD_mem ([most, 3, most, 1, most, 2, 0, 5] : List Int) (i := (c * 48271 % 65537 / 8 % 8).toNat) (by simp only [List.length_cons, List.length_nil]; omega)
    simp only [List.mem_cons, List.not_mem_nil, or_false] at m
    exact h _ (by omega) (by omega)
  · exact h.elim

def wf__law_board : WF := fun ds Q => match ds with
  | [(.ro, .list ds), (.fr, .int start), (.fr, .int most), (.fr, .int day)] => isInts ds ∧ ds.length ≤ 63 ∧ 0 ≤ start ∧ start ≤ 1000 ∧ 0 ≤ most ∧ most ≤ 1000 ∧ 1 ≤ day ∧ day ≤ 10 ^ 15 ∧ ∀ l : List Win, (∀ w ∈ l, Good day w) → l.length ≤ 21 → Q (.list (l.map wd))
  | _ => False
theorem mf__law_board : MonF wf__law_board := by
  intro ds Q Q1 q h
  unfold wf__law_board at h ⊢
  split at h <;> first | exact h.elim | exact q _ h | (try dsimp only) <;> (repeat' (first | exact h | exact q _ h | refine Exists.imp (fun _ h => ?_) h | refine And.imp (fun h => ?_) (fun h => ?_) h | (intro a; replace h := h a))) | grind
abbrev st__law_board : Stmt := top 25
def m__law_board : Mc := ⟨["script", "start", "most", "day", "board", "k", "a", "b"], bn⟩
def b__law_board : PSs := (.cons (.asg (.nm 4) (.lst .nil))
    (.cons (.for (.r3 (.var 1) (.cb 2 (.cons (.bin .sub (.cb 0 (.cons (.var 0) .nil)) (.int 2)) (.cons (.bin .add (.var 1) (.bin .mul (.int 3) (.var 2))) .nil))) (.int 3)) (.nm 5) (.cons (.asg (.nm 6) (.bin .mod (.ix (.var 0) (.var 5)) (.var 3)))
    (.cons (.asg (.nm 7) (.bin .add (.var 6) (.call "_law_stay" 2 wf__law_stay (.cons (.ix (.var 0) (.bin .add (.var 5) (.int 1))) (.cons (.bin .sub (.var 3) (.var 6)) .nil)))))
    (.cons (.app 4 (.tup (.cons (.mv 6) (.cons (.mv 7) (.cons (.call "_law_ride" 2 wf__law_ride (.cons (.ix (.var 0) (.bin .add (.var 5) (.int 2))) (.cons (.var 3) .nil))) .nil)))))
    .nil))))
    (.cons (.ret (.mv 4))
    .nil)))
theorem t__law_board : Tx m__law_board st__law_board ["script", "start", "most", "day"] b__law_board := ⟨⟨rfl, rfl, rfl, by decide +kernel, rfl, by decide +kernel, by decide +kernel⟩, by decide +kernel, by decide +kernel⟩
theorem p__law_board (ds : List Sl) (Q : PyData → Prop) (h : wf__law_board ds Q) (hl : ds.length = 4) : wSs b__law_board (fin Q) (ini 8 ds) := by
  unfold wf__law_board at h
  split at h
  · rename_i ds start most day
    obtain ⟨⟨ns, rfl⟩, hlen, s0, s1, m0, m1, d0, d1, h⟩ := h
    rw [List.length_map] at hlen
    unfold b__law_board
    simp! []
    have hJ : ∃ J, J = (if start + 3 * most < (ns.length : Int) - 2 then start + 3 * most else (ns.length : Int) - 2) ∧ J ≤ (ns.length : Int) - 2 ∧ -1000000 < J ∧ J < 1000000 := ⟨_, rfl, by split <;> omega, by split <;> omega, by split <;> omega⟩
    obtain ⟨J, eJ, j1, j2, j3⟩ := hJ
    rw [← eJ]
    obtain ⟨n, rg, nl, hk⟩ := rgc3 s0 (show start < 1000000 by omega) j2 j3
    refine ⟨n, rg, ?_⟩
    rw [rng3_ints]
    have hx : ∀ x ∈ (List.range n).map fun (k : Nat) => start + (k : Int) * 3, 0 ≤ x ∧ x + 2 < ns.length := fun x hx => by
      obtain ⟨k, hk1, rfl⟩ := List.mem_map.mp hx
      have := hk k (List.mem_range.mp hk1)
      omega
    have hxl : ((List.range n).map fun (k : Nat) => start + (k : Int) * 3).length ≤ 21 := by
      rw [List.length_map, List.length_range]
      rcases Nat.eq_zero_or_pos n with z | z
      · omega
      · have := hk (n - 1) (by omega)
        omega
    generalize ((List.range n).map fun (k : Nat) => start + (k : Int) * 3) = xs at *
    refine forP_ind (fun ds ρ => ∃ (x0 x1 : List Int) (l : List Win) (oa ob oc : Option Sl), ds = x1.map (fun x => ((.un, .int x) : Sl)) ∧ xs = x0 ++ x1 ∧ l.length = x0.length ∧ (∀ w ∈ l, Good day w) ∧
      ρ = [some (.ro, .list (ns.map .int)), some (.fr, .int start), some (.fr, .int most), some (.fr, .int day), some (.un, .list (l.map wd)), oa, ob, oc]) ?_ ?_ _ _ ⟨[], xs, [], none, none, none, rfl, rfl, rfl, (fun w hw => by cases hw), rfl⟩
    · rintro ρ ⟨x0, x1, l, oa, ob, oc, e, hf, hl, hg, rfl⟩
      cases x1 with
      | cons _ _ => cases e
      | nil =>
        rw [List.append_nil] at hf
        subst hf
        simp! []
        exact h l hg (by omega)
    · rintro k d r ih ρ ⟨x0, x1, l, oa, ob, oc, e, hf, hl, hg, rfl⟩
      cases x1 with
      | nil => cases e
      | cons x x1 =>
        rw [List.map_cons] at e
        injection e with e1 e2
        injection e1 with e1 e3
        subst e1 e3
        have hlt : x0.length < xs.length := by rw [hf, List.length_append, List.length_cons]; omega
        obtain ⟨b0, b1⟩ := hx x (by rw [hf]; exact List.mem_append_right _ List.mem_cons_self)
        simp! [fun K => wAt_map PyData.int ns (i := x) K (by omega) (by omega), fun K => wAt_map PyData.int ns (i := x + 1) K (by omega) (by omega), fun K => wAt_map PyData.int ns (i := x + 2) K (by omega) (by omega), ↓wf__law_stay, ↓wf__law_ride]
        have a0 := Int.emod_nonneg (ns[x.toNat]'(by omega)) (show day ≠ 0 by omega)
        have a1 := Int.emod_lt_of_pos (ns[x.toNat]'(by omega)) (show 0 < day by omega)
        generalize (ns[x.toNat]'(by omega)) % day = A at *
        refine ⟨by omega, by omega, fun s sa sb => ⟨d0, by omega, fun c c0 => ⟨by omega, ih _ ⟨x0 ++ [x], x1, l ++ [(A, A + s, c)], _, _, _, e2, by rw [hf, List.append_assoc]; rfl, by rw [List.length_append, List.length_append, hl]; rfl, good_snoc hg ⟨a0, ?_, ?_, c0⟩, by rw [List.map_append]; rfl⟩⟩⟩⟩
        · show A ≤ A + s
          omega
        · show A + s < day
          omega
  · exact h.elim

def wf__law_whole : WF := fun ds Q => match ds with
  | [(.fr, d)] => Q (.bool (isInt d))
  | _ => False
theorem mf__law_whole : MonF wf__law_whole := by
  intro ds Q Q1 q h
  unfold wf__law_whole at h ⊢
  split at h <;> first | exact h.elim | exact q _ h | (try dsimp only) <;> (repeat' (first | exact h | exact q _ h | refine Exists.imp (fun _ h => ?_) h | refine And.imp (fun h => ?_) (fun h => ?_) h | (intro a; replace h := h a))) | grind
abbrev st__law_whole : Stmt := top 26
def m__law_whole : Mc := ⟨["found"], bn⟩
def b__law_whole : PSs := (.cons (.ret (.and (.isi 0 (.var 0)) (.one (.not (.isi 1 (.var 0))))))
    .nil)
theorem t__law_whole : Tx m__law_whole st__law_whole ["found"] b__law_whole := ⟨⟨rfl, rfl, rfl, by decide +kernel, rfl, by decide +kernel, by decide +kernel⟩, by decide +kernel, by decide +kernel⟩
theorem p__law_whole (ds : List Sl) (Q : PyData → Prop) (h : wf__law_whole ds Q) (hl : ds.length = 1) : wSs b__law_whole (fin Q) (ini 1 ds) := by
  unfold wf__law_whole at h
  split at h
  · rename_i d
    unfold b__law_whole
    cases d <;> (simp! []; exact h)
  · exact h.elim

def wf__law_piece : WF := fun ds Q => match ds with
  | [(.fr, .int day), (.fr, .list ds), (.fr, .int p), (.fr, .int q)] => 0 < day ∧ day ≤ 10 ^ 15 ∧ AllWd ds ∧ (∀ w ∈ ds.map winOf, Good day w) ∧ ds.length ≤ 1000 ∧ ds ≠ [] ∧ 0 ≤ p ∧ p < q ∧ q ≤ day ∧ (∀ w ∈ ds.map winOf, Cut p q w) ∧
    ∃ F, MinsR day (ds.map winOf) F p q ∧ Q (.int (sumB F p q))
  | _ => False
theorem mf__law_piece : MonF wf__law_piece := by
  intro ds Q Q1 q h
  unfold wf__law_piece at h ⊢
  split at h <;> first | exact h.elim | exact q _ h | (try dsimp only) <;> (repeat' (first | exact h | exact q _ h | refine Exists.imp (fun _ h => ?_) h | refine And.imp (fun h => ?_) (fun h => ?_) h | (intro a; replace h := h a))) | grind
abbrev st__law_piece : Stmt := top 27
def m__law_piece : Mc := ⟨["day", "board", "p", "q", "going", "still", "a", "b", "c", "many", "ride", "early", "first", "rest"], bn⟩
def b__law_piece : PSs := (.cons (.asg (.nm 4) (.lst .nil))
    (.cons (.asg (.nm 5) (.lst .nil))
    (.cons (.for (.li (.mv 1)) (.tp (.cons (.nm 6) (.cons (.nm 7) (.cons (.nm 8) .nil)))) (.cons (.ifs (.chain .le .le (.var 6) (.var 2) (.var 7)) (.cons (.app 4 (.mv 8))
    .nil) (.cons (.app 5 (.bin .add (.bin .add (.var 2) (.bin .mod (.bin .sub (.var 6) (.var 2)) (.var 0))) (.var 8)))
    .nil))
    .nil))
    (.cons (.asg (.nm 9) (.bin .sub (.var 3) (.var 2)))
    (.cons (.ifs (.cmp .eq (.var 4) (.lst .nil)) (.cons (.ret (.bin .sub (.bin .mul (.cb 2 (.cons (.var 5) .nil)) (.var 9)) (.bin .div (.bin .mul (.bin .sub (.bin .add (.var 2) (.var 3)) (.int 1)) (.var 9)) (.int 2))))
    .nil) .nil)
    (.cons (.asg (.nm 10) (.cb 2 (.cons (.var 4) .nil)))
    (.cons (.ifs (.or (.cmp .eq (.var 5) (.lst .nil)) (.one (.cmp .le (.bin .add (.bin .sub (.var 3) (.int 1)) (.var 10)) (.cb 2 (.cons (.var 5) .nil))))) (.cons (.ret (.bin .mul (.var 10) (.var 9)))
    .nil) .nil)
    (.cons (.asg (.nm 11) (.cb 1 (.cons (.int 0) (.cons (.bin .sub (.bin .add (.bin .sub (.cb 2 (.cons (.var 5) .nil)) (.var 10)) (.int 1)) (.var 2)) .nil))))
    (.cons (.asg (.nm 12) (.bin .add (.var 2) (.var 11)))
    (.cons (.asg (.nm 13) (.bin .sub (.var 3) (.var 12)))
    (.cons (.ret (.bin .sub (.bin .add (.bin .mul (.var 10) (.var 11)) (.bin .mul (.cb 2 (.cons (.var 5) .nil)) (.var 13))) (.bin .div (.bin .mul (.bin .sub (.bin .add (.var 12) (.var 3)) (.int 1)) (.var 13)) (.int 2))))
    .nil)))))))))))
theorem t__law_piece : Tx m__law_piece st__law_piece ["day", "board", "p", "q"] b__law_piece := ⟨⟨rfl, rfl, rfl, by decide +kernel, rfl, by decide +kernel, by decide +kernel⟩, by decide +kernel, by decide +kernel⟩
theorem p__law_piece (ds : List Sl) (Q : PyData → Prop) (h : wf__law_piece ds Q) (hl : ds.length = 4) : wSs b__law_piece (fin Q) (ini 14 ds) := by
  unfold wf__law_piece at h
  split at h
  · rename_i day ds p q
    obtain ⟨hd, hd2, ⟨l, rfl⟩, hg, hlen, hne, p0, pq, qd, hc, F, hF, h⟩ := h
    rw [winOf_map] at hg hF hc
    rw [List.length_map] at hlen
    unfold b__law_piece
    refine cutN 3 _ (fun ρ => ∃ (gs ss : List Int) (oa ob oc : Option Sl), PcI day p q l gs ss ∧ gs.length + ss.length = l.length ∧
      ρ = [some (.fr, .int day), some (.fr, .list (l.map wd)), some (.fr, .int p), some (.fr, .int q), some (.un, .list (gs.map .int)), some (.un, .list (ss.map .int)), oa, ob, oc, none, none, none, none, none]) (by simp only [tkP, cSs, cSt, cOk, cPC, pthX, cAs, cOo, cIt, okM, mf_gs, implies_true, and_true, and_self, true_and]) ?_ ?_
    · simp only [tkP]
      simp! []
      refine forP_ind (fun ds ρ => ∃ (l0 l' : List Win) (gs ss : List Int) (oa ob oc : Option Sl), ds = (l'.map wd).map (fun d => (kp .fr d, d)) ∧ l = l0 ++ l' ∧ PcI day p q l0 gs ss ∧ gs.length + ss.length = l0.length ∧
        ρ = [some (.fr, .int day), some (.fr, .list (l.map wd)), some (.fr, .int p), some (.fr, .int q), some (.un, .list (gs.map .int)), some (.un, .list (ss.map .int)), oa, ob, oc, none, none, none, none, none]) ?_ ?_ _ _ ⟨[], l, [], [], none, none, none, rfl, rfl, .nil _ _ _, rfl, rfl⟩
      · rintro ρ ⟨l0, l', gs, ss, oa, ob, oc, e, hf, i, hn, rfl⟩
        cases l' with
        | cons _ _ => cases e
        | nil =>
          rw [List.append_nil] at hf
          subst hf
          exact ⟨gs, ss, _, _, _, i, hn, rfl⟩
      · rintro k d r ih ρ ⟨l0, l', gs, ss, oa, ob, oc, e, hf, i, hn, rfl⟩
        cases l' with
        | nil => cases e
        | cons w l' =>
          rw [List.map_cons, List.map_cons] at e
          injection e with e1 e2
          injection e1 with e1 e3
          subst e1 e3
          have hlt : l0.length < l.length := by rw [hf, List.length_append, List.length_cons]; omega
          have hw : w ∈ l := by rw [hf]; exact List.mem_append_right _ List.mem_cons_self
          have g := hg w hw
          have c := hc w hw
          have i1 : (w.1 ≤ p ∧ p ≤ w.2.1) → PcI day p q (l0 ++ [w]) (gs ++ [w.2.2]) ss := fun z => i.go fun t t0 t1 => cut_go g p0 qd c z.1 z.2 t0 t1
          have i2 : ¬ (w.1 ≤ p ∧ p ≤ w.2.1) → PcI day p q (l0 ++ [w]) gs (ss ++ [p + (w.1 - p) % day + w.2.2]) := fun z => i.st fun t t0 t1 => cut_st g p0 qd c z t0 t1
          obtain ⟨a, b, c'⟩ := w
          refine forP_win ?_
          simp! []
          have fin1 : (a ≤ p ∧ p ≤ b) → _ := fun z => ih _ ⟨l0 ++ [(a, b, c')], l', gs ++ [c'], ss, some (.un, .int a), some (.un, .int b), some (.un, .int c'), e2, by rw [hf, List.append_assoc]; rfl, i1 z, by simp only [List.length_append, List.length_singleton]; omega, rfl⟩
          have fin2 : ¬ (a ≤ p ∧ p ≤ b) → _ := fun z => ih _ ⟨l0 ++ [(a, b, c')], l', gs, ss ++ [p + (a - p) % day + c'], some (.un, .int a), some (.un, .int b), some (.un, .int c'), e2, by rw [hf, List.append_assoc]; rfl, i2 z, by simp only [List.length_append, List.length_singleton]; omega, rfl⟩
          rw [List.map_append] at fin1 fin2
          by_cases q1 : a ≤ p
          · by_cases q2 : p ≤ b
            · rw [if_pos q1, if_pos q2]
              exact ⟨by omega, fin1 ⟨q1, q2⟩⟩
            · rw [if_pos q1, if_neg q2]
              exact ⟨hd, by omega, fin2 fun z => q2 z.2⟩
          · rw [if_neg q1]
            exact ⟨hd, by omega, fin2 fun z => q1 z.1⟩
    · rintro ρ ⟨gs, ss, oa, ob, oc, i, hn, rfl⟩
      simp only [dpP]
      have ln : 0 < l.length := List.length_pos_iff.mpr fun z => hne (by rw [z]; rfl)
      cases hgs : gs with
      | nil =>
        subst hgs
        simp! [shaped_nil, eqv_nil, List.isEmpty_nil]
        refine ⟨_, ints_map _, by simp at hn; omega, fun M hM hu => ?_⟩
        rw [pc_shut i hF p0 (by omega) hM hu] at h
        exact ⟨.inl (cMul (by omega) (by omega)), .inl (cMul (by omega) (by omega)), h⟩
      | cons g0 gs0 =>
        rw [← hgs]
        have gp : 0 < gs.length := by rw [hgs]; simp
        have e0 : (gs.map PyData.int).isEmpty = false := by rw [hgs]; rfl
        clear hgs
        simp! [shaped_nil, eqv_nil, e0]
        refine ⟨shaped_ints _, _, ints_map _, gp, fun r hr hu => ⟨shaped_ints _, ?_⟩⟩
        have hgo : (∀ s ∈ ss, q - 1 + r ≤ s) → Q (.int (r * (q - p))) := fun z => by
          rw [← pc_open i hF p0 (by omega) hr hu z]
          exact h
        have cm : CMul r (q - p) := cMul (by omega) (by omega)
        by_cases hs : ss = []
        · rw [if_pos (by rw [hs]; rfl)]
          exact ⟨.inl cm, hgo (fun s h => by rw [hs] at h; cases h)⟩
        · rw [if_neg (by cases ss <;> first | exact absurd rfl hs | simp)]
          have sp : 0 < ss.length := List.length_pos_iff.mpr hs
          refine ⟨_, ints_map _, sp, fun M hM hv => ?_⟩
          by_cases hle : q - 1 + r ≤ M
          · rw [if_pos hle]
            exact ⟨.inl cm, hgo fun s hs2 => by have := hv s hs2; omega⟩
          · rw [if_neg hle]
            refine ⟨_, ints_map _, sp, fun M1 hM1 hv1 => ?_⟩
            rw [mins_uni hM1 hv1 hM hv]
            have hb := pc_both i hF p0 pq hr hu hM hv (by omega) rfl
            rw [hb] at h
            have e1 : (if M - r + 1 - p > 0 then M - r + 1 - p else 0) < q - p ∧ 0 ≤ (if M - r + 1 - p > 0 then M - r + 1 - p else 0) := by split <;> omega
            generalize (if M - r + 1 - p > 0 then M - r + 1 - p else 0) = E at *
            obtain ⟨e1, e2⟩ := e1
            refine ⟨.inl (cMul (by omega) (by omega)), _, ints_map _, sp, fun M2 hM2 hv2 => ?_⟩
            rw [mins_uni hM2 hv2 hM hv]
            exact ⟨.inl (cMul (by omega) (by omega)), .inl (cMul (by omega) (by omega)), h⟩
  · exact h.elim

abbrev st_law : Stmt := top 28
def m_law : Mc := ⟨["script", "day", "board", "found", "cuts", "a", "b", "c", "due", "k"], bn⟩
def b_law : PSs := (.cons (.asg (.nm 1) (.call "_law_day" 1 wf__law_day (.cons (.call "_law_cell_at" 2 wf__law_cell_at (.cons (.var 0) (.cons (.int 0) .nil))) .nil)))
    (.cons (.asg (.nm 2) (.call "_law_board" 4 wf__law_board (.cons (.var 0) (.cons (.int 1) (.cons (.call "_law_many" 2 wf__law_many (.cons (.var 0) (.cons (.int 12) .nil))) (.cons (.var 1) .nil))))))
    (.cons (.asg (.nm 3) (.call "sum_of" 2 wf_sum_of (.cons (.var 1) (.cons (.call "clock_of" 2 wf_clock_of (.cons (.var 1) (.cons (.cb 3 (.cons (.var 2) .nil)) .nil))) .nil))))
    (.cons (.ifs (.cmp .eq (.var 2) (.lst .nil)) (.cons (.ret (.cmp .is (.var 3) .non))
    .nil) .nil)
    (.cons (.asg (.nm 4) (.lst (.cons (.int 0) (.cons (.fz 1) .nil))))
    (.cons (.for (.li (.fz 2)) (.tp (.cons (.nm 5) (.cons (.nm 6) (.cons (.nm 7) .nil)))) (.cons (.app 4 (.mv 5))
    (.cons (.app 4 (.bin .add (.var 6) (.int 1)))
    .nil)))
    (.cons (.asg (.nm 4) (.xt exSrs (.cons (.var 4) .nil)))
    (.cons (.asg (.nm 8) (.int 0))
    (.cons (.for (.r2 (.int 1) (.cb 0 (.cons (.var 4) .nil))) (.nm 9) (.cons (.asg (.nm 8) (.bin .add (.var 8) (.call "_law_piece" 4 wf__law_piece (.cons (.var 1) (.cons (.var 2) (.cons (.ix (.var 4) (.bin .sub (.var 9) (.int 1))) (.cons (.ix (.var 4) (.var 9)) .nil)))))))
    .nil))
    (.cons (.ret (.and (.call "_law_whole" 1 wf__law_whole (.cons (.var 3) .nil)) (.one (.cmp .eq (.var 3) (.var 8)))))
    .nil))))))))))
theorem t_law : Tx m_law st_law ["script"] b_law := ⟨⟨rfl, rfl, rfl, by decide +kernel, rfl, by decide +kernel, by decide +kernel⟩, by decide +kernel, by decide +kernel⟩
theorem p_law (ns : List Int) (hn : ns.length ≤ 63) : wSs b_law (fin fun d => d = .bool true) (ini 10 [(.ro, .list (ns.map .int))]) := by
  unfold b_law
  refine cutN 3 _ (fun ρ => ∃ (day : Int) (l R : List Win) (T : PyData), 1 ≤ day ∧ day ≤ 10 ^ 15 ∧ (∀ w ∈ l, Good day w) ∧ l.length ≤ 21 ∧ BrdR day l R ∧ SumV day R T ∧ ρ = [some (.ro, .list (ns.map .int)), some (.un, .int day), some (.un, .list (l.map wd)), some (.un, T), none, none, none, none, none, none]) (by simp only [tkP, cSs, cSt, cOk, cPC, pthX, cAs, cOo, cIt, okM, mf_gs, implies_true, mf__law_board, mf__law_cell_at, mf__law_day, mf__law_many, mf__law_piece, mf__law_whole, mf_clock_of, mf_sum_of, ct_srs, List.not_mem_nil, false_implies, implies_true, and_true, and_self, true_and]) ?_ ?_
  · simp only [tkP]
    simp! [↓wf__law_day, ↓wf__law_cell_at, ↓wf__law_many, ↓wf_clock_of, ↓wf__law_board, ↓wf_sum_of, allWd_map, winOf_map, flats_wd]
    intro c day d1 d2 many m0 m1
    refine ⟨hn, by omega, by omega, d1, by omega, fun l g ll => ⟨g, by omega, fun R b lb => ⟨b.clk, by omega, by omega, fun e => ?_, fun e => ?_⟩⟩⟩
    · exact ⟨day, l, R, _, d1, by omega, g, ll, b, .inl ⟨nil_map ▸ e, rfl⟩, rfl⟩
    · exact ⟨day, l, R, _, d1, by omega, g, ll, b, .inr ⟨fun z => e (nil_map ▸ z), rfl⟩, rfl⟩
  · rintro ρ ⟨day, l, R, T, d1, d2, g, ll, b, v, rfl⟩
    simp only [dpP]
    by_cases hl : l = []
    · have e0 : (l.map wd).isEmpty = true := by rw [empty_map]; exact decide_eq_true hl
      have et := v.nil (b.nil_iff.mpr hl)
      subst et
      simp! [shaped_lwd, shaped_nil, eqv_nil, e0]
    · have e0 : (l.map wd).isEmpty = false := by rw [empty_map]; exact decide_eq_false hl
      have e1 : (l.map wd = []) = False := eq_false fun z => hl (nil_map ▸ z)
      have hR : R ≠ [] := fun z => hl (b.nil_iff.mp z)
      have et := v.int hR
      have hF : ∀ t, MinCome day l t (cF day R t) := fun t => by
        obtain ⟨y, hy⟩ := min_come (day := day) (t := t) hl
        rw [← (b.min hy).2]
        exact hy
      have eS : sumN (fun t => cF day R t - t) day.toNat = sumB (cF day R) 0 day := by
        unfold sumB
        show _ = _ - sumN _ 0
        show _ = _ - 0
        omega
      rw [eS] at et
      generalize cF day R = F at *
      subst et
      refine cutN 3 _ (fun ρ => ∃ (cs : List Int) (oa ob oc : Option Sl), 0 ∈ cs ∧ day ∈ cs ∧ (∀ w ∈ l, w.1 ∈ cs ∧ w.2.1 + 1 ∈ cs) ∧ (∀ x ∈ cs, 0 ≤ x ∧ x ≤ day) ∧ cs.length < 64 ∧
        ρ = [some (.ro, .list (ns.map .int)), some (.un, .int day), some (.fr, .list (l.map wd)), some (.un, .int (sumB F 0 day)), some (.un, .list (cs.map .int)), oa, ob, oc, none, none]) (by simp only [tkP, cSs, cSt, cOk, cPC, pthX, cAs, cOo, cIt, okM, mf_gs, implies_true, mf__law_board, mf__law_cell_at, mf__law_day, mf__law_many, mf__law_piece, mf__law_whole, mf_clock_of, mf_sum_of, ct_srs, List.not_mem_nil, false_implies, implies_true, and_true, and_self, true_and]) ?_ ?_
      · simp only [tkP]
        simp! [shaped_lwd, shaped_nil, eqv_nil, e0, e1]
        refine forP_ind (fun ds ρ => ∃ (l0 l' : List Win) (cs : List Int) (oa ob oc : Option Sl), ds = (l'.map wd).map (fun d => (kp .fr d, d)) ∧ l = l0 ++ l' ∧ 0 ∈ cs ∧ day ∈ cs ∧ (∀ w ∈ l0, w.1 ∈ cs ∧ w.2.1 + 1 ∈ cs) ∧ (∀ x ∈ cs, 0 ≤ x ∧ x ≤ day) ∧ cs.length = 2 + 2 * l0.length ∧
          ρ = [some (.ro, .list (ns.map .int)), some (.un, .int day), some (.fr, .list (l.map wd)), some (.un, .int (sumB F 0 day)), some (.un, .list (cs.map .int)), oa, ob, oc, none, none]) ?_ ?_ _ _ ⟨[], l, [0, day], none, none, none, rfl, rfl, by simp, by simp, (fun _ h => (nomatch h)), (fun x hx => by simp at hx; omega), rfl, rfl⟩
        · rintro ρ ⟨l0, l', cs, oa, ob, oc, e, hf, c0, cd, cw, cb, cl, rfl⟩
          cases l' with
          | cons _ _ => cases e
          | nil =>
            rw [List.append_nil] at hf
            subst hf
            exact ⟨cs, _, _, _, c0, cd, cw, cb, by omega, rfl⟩
        · rintro k d r ih ρ ⟨l0, l', cs, oa, ob, oc, e, hf, c0, cd, cw, cb, cl, rfl⟩
          cases l' with
          | nil => cases e
          | cons w l' =>
            rw [List.map_cons, List.map_cons] at e
            injection e with e1 e2
            injection e1 with e1 e3
            subst e1 e3
            have hlt : l0.length < l.length := by rw [hf, List.length_append, List.length_cons]; omega
            obtain ⟨g1, g2, g3, g4⟩ := g w (by rw [hf]; exact List.mem_append_right _ List.mem_cons_self)
            obtain ⟨a, b', c⟩ := w
            simp only at g1 g2 g3 g4
            refine forP_win ?_
            simp! []
            refine ⟨by omega, by rw [List.length_append, List.length_map, List.length_singleton]; omega, ih _ ⟨l0 ++ [(a, b', c)], l', cs ++ [a] ++ [b' + 1], _, _, _, e2, by rw [hf, List.append_assoc]; rfl, ?_, ?_, ?_, ?_, by simp only [List.length_append, List.length_singleton]; omega, by rw [List.map_append, List.map_append]; rfl⟩⟩
            · simp [c0]
            · simp [cd]
            · intro w hw
              rcases List.mem_append.mp hw with hw | hw
              · obtain ⟨h1, h2⟩ := cw w hw
                simp [h1, h2]
              · obtain rfl := List.mem_singleton.mp hw
                simp
            · intro x hx
              simp only [List.mem_append, List.mem_singleton] at hx
              rcases hx with (hx | rfl) | rfl
              · exact cb x hx
              · omega
              · omega
      · rintro ρ ⟨cs, oa, ob, oc, c0, cd, cw, cb, cl, rfl⟩
        simp only [dpP]
        refine cutN 1 _ (fun ρ => ∃ (L : List Int), L.Pairwise (· < ·) ∧ L.length ≤ 1000 ∧ (∀ x, x ∈ L ↔ x ∈ cs) ∧
          ρ = [some (.ro, .list (ns.map .int)), some (.un, .int day), some (.fr, .list (l.map wd)), some (.un, .int (sumB F 0 day)), some (.un, .list (L.map .int)), oa, ob, oc, none, none]) (by simp only [tkP, cSs, cSt, cOk, cPC, pthX, cAs, cOo, cIt, okM, mf_gs, implies_true, mf__law_board, mf__law_cell_at, mf__law_day, mf__law_many, mf__law_piece, mf__law_whole, mf_clock_of, mf_sum_of, ct_srs, List.not_mem_nil, false_implies, implies_true, and_true, and_self, true_and]) ?_ ?_
        · simp only [tkP]
          simp! []
          refine ⟨cs, rfl, cl, fun L h1 h2 => ?_⟩
          have hL : L.length ≤ 1000 := by
            have nd : L.Nodup := h1.imp fun h => by omega
            have := nd.length_le_of_subset (l₂ := cs) fun x hx => (h2 x).mp hx
            omega
          exact ⟨L, h1, hL, h2, rfl⟩
        · rintro ρ ⟨L, lp, lL, lm, rfl⟩
          simp only [dpP]
          have z0 : L[0]? = some 0 := by
            cases L with
            | nil => exact absurd ((lm 0).mpr c0) (by simp)
            | cons x L =>
              have h1 := (lm 0).mpr c0
              have h2 := cb x ((lm x).mp List.mem_cons_self)
              rcases List.mem_cons.mp h1 with e | h1
              · rw [← e]; rfl
              · have := (List.pairwise_cons.mp lp).1 0 h1
                omega
          have hpos : 0 < L.length := (List.getElem?_eq_some_iff.mp z0).1
          have hend : ∀ x, L[L.length - 1]? = some x → x = day := fun x hx => by
            obtain ⟨i, hi, ei⟩ := List.getElem_of_mem ((lm day).mpr cd)
            obtain ⟨h1, h2⟩ := List.getElem?_eq_some_iff.mp hx
            have h3 := (cb x ((lm x).mp (List.mem_of_getElem? hx))).2
            rcases Nat.lt_or_ge i (L.length - 1) with z | z
            · have := List.pairwise_iff_getElem.mp lp i (L.length - 1) hi h1 z
              omega
            · have : i = L.length - 1 := by omega
              subst this
              omega
          simp! []
          refine ⟨by omega, ?_⟩
          refine forP_ind (fun dx ρ => ∃ (k n : Nat) (x : Int) (o9 : Option Sl), dx = rng ((k + 1 : Nat) : Int) n ∧ k + 1 + n = L.length ∧ L[k]? = some x ∧
            ρ = [some (.ro, .list (ns.map .int)), some (.un, .int day), some (.fr, .list (l.map wd)), some (.un, .int (sumB F 0 day)), some (.un, .list (L.map .int)), oa, ob, oc, some (.un, .int (sumB F 0 x)), o9]) ?_ ?_ _ _ ⟨0, L.length - 1, 0, none, ?_, by omega, z0, ?_⟩
          · rintro ρ ⟨k, n, x, o9, e, en, hx, rfl⟩
            cases n with
            | succ n => rw [rng_succ] at e; cases e
            | zero =>
              have ek : k = L.length - 1 := by omega
              subst ek
              rw [hend x hx]
              simp! [↓wf__law_whole, isInt]
          · rintro kk d r ih ρ ⟨k, n, x, o9, e, en, hx, rfl⟩
            cases n with
            | zero => cases e
            | succ n =>
              rw [rng_succ] at e
              injection e with e1 e2
              injection e1 with e1 e3
              subst e1 e3
              have hk : k + 1 < L.length := by omega
              obtain ⟨y, hy⟩ : ∃ y, L[k + 1]? = some y := ⟨_, List.getElem?_eq_getElem hk⟩
              have x0 := cb x ((lm x).mp (List.mem_of_getElem? hx))
              have y0 := cb y ((lm y).mp (List.mem_of_getElem? hy))
              have xy := rise_lt lp hx hy
              have w1 := fun K => wAt_map PyData.int L (i := (k : Int) + 1 - 1) K (by omega) (by omega)
              have w2' := fun K => wAt_map PyData.int L (i := (k : Int) + 1) K (by omega) (by omega)
              have g1 : L[((k : Int) + 1 - 1).toNat]'(by omega) = x := by
                have : ((k : Int) + 1 - 1).toNat = k := by omega
                simp only [this]
                exact (List.getElem?_eq_some_iff.mp hx).2
              have g2 : L[((k : Int) + 1).toNat]'(by omega) = y := by
                have : ((k : Int) + 1).toNat = k + 1 := by omega
                simp only [this]
                exact (List.getElem?_eq_some_iff.mp hy).2
              have hc : ∀ w ∈ l, Cut x y w := fun w hw => by
                obtain ⟨h1, h2⟩ := cw w hw
                have r1 := rise_gap lp hx hy ((lm _).mpr h1)
                have r2 := rise_gap lp hx hy ((lm _).mpr h2)
                obtain ⟨g1, g2, g3, g4⟩ := g w hw
                unfold Cut
                omega
              have fin := ih _ ⟨k + 1, n, y, some (.un, .int ((k : Int) + 1)), e2, by omega, hy, rfl⟩
              rw [← sumB_add F 0 x y] at fin
              simp! [w1, w2', g1, g2, ↓wf__law_piece, allWd_map, winOf_map, e1]
              exact ⟨by omega, by omega, g, by omega, by omega, xy, by omega, hc, F, fun t _ _ => hF t, fin⟩
          · rw [show ((L.length : Int) - 1).toNat = L.length - 1 by omega]
            rfl
          · have e3 : sumB F 0 0 = 0 := by unfold sumB; omega
            rw [e3]

section
variable {P : Program} {w : World} {K : PySem.W.Frag} {mg : Str → Option Value} {base : Heap}
theorem c_stretches (D : Df K mg "stretches" st_stretches ["day", "clock"]) (hb : ∀ y ∈ bn, mg y = none)    : Cal P w K mg base 1 "stretches" 2 wf_stretches := by
  exact fn_ok (m := m_stretches) (j := 0) t_stretches D hb (by unfold b_stretches; simp only [cSs, cSt, cOk, cPC, pthX, cAs, cOo, cIt, ct_srs, List.not_mem_nil, false_implies, implies_true, and_true, and_self, true_and]) p_stretches
theorem c_told_at (D : Df K mg "told_at" st_told_at ["part", "x"]) (hb : ∀ y ∈ bn, mg y = none)    : Cal P w K mg base 1 "told_at" 2 wf_told_at := by
  exact fn_ok (m := m_told_at) (j := 0) t_told_at D hb (by unfold b_told_at; simp only [cSs, cSt, cOk, cPC, pthX, cAs, cOo, cIt, ct_srs, List.not_mem_nil, false_implies, implies_true, and_true, and_self, true_and]) p_told_at
theorem c_joined (D : Df K mg "joined" st_joined ["rows"]) (hb : ∀ y ∈ bn, mg y = none)    : Cal P w K mg base 1 "joined" 1 wf_joined := by
  exact fn_ok (m := m_joined) (j := 0) t_joined D hb (by unfold b_joined; simp only [cSs, cSt, cOk, cPC, pthX, cAs, cOo, cIt, ct_srs, List.not_mem_nil, false_implies, implies_true, and_true, and_self, true_and]) p_joined
theorem c_gathered (D : Df K mg "gathered" st_gathered ["day", "parts"]) (hb : ∀ y ∈ bn, mg y = none) (h_joined : Cal P w K mg base 1 "joined" 1 wf_joined) (h_told_at : Cal P w K mg base 1 "told_at" 2 wf_told_at)   : Cal P w K mg base 2 "gathered" 2 wf_gathered := by
  have g_joined : CalS P w K mg base 1 .fn "joined" 1 wf_joined := ⟨1, by decide, h_joined⟩
  have g_told_at : CalS P w K mg base 1 .fn "told_at" 2 wf_told_at := ⟨1, by decide, h_told_at⟩
  exact fn_ok (m := m_gathered) (j := 1) t_gathered D hb (by unfold b_gathered; simp only [cSs, cSt, cOk, cPC, pthX, cAs, cOo, cIt, ct_srs, List.not_mem_nil, false_implies, implies_true, and_true, and_self, true_and, g_joined, g_told_at]) p_gathered
theorem c_sum_of (D : Df K mg "sum_of" st_sum_of ["day", "clock"]) (hb : ∀ y ∈ bn, mg y = none) (h_stretches : Cal P w K mg base 1 "stretches" 2 wf_stretches)   : Cal P w K mg base 2 "sum_of" 2 wf_sum_of := by
  have g_stretches : CalS P w K mg base 1 .fn "stretches" 2 wf_stretches := ⟨1, by decide, h_stretches⟩
  exact fn_ok (m := m_sum_of) (j := 1) t_sum_of D hb (by unfold b_sum_of; simp only [cSs, cSt, cOk, cPC, pthX, cAs, cOo, cIt, ct_srs, List.not_mem_nil, false_implies, implies_true, and_true, and_self, true_and, g_stretches]) p_sum_of
theorem c_whole (D : Df K mg "whole" st_whole ["thing"]) (hb : ∀ y ∈ bn, mg y = none)    : Cal P w K mg base 1 "whole" 1 wf_whole := by
  exact fn_ok (m := m_whole) (j := 0) t_whole D hb (by unfold b_whole; simp only [cSs, cSt, cOk, cPC, pthX, cAs, cOo, cIt, ct_srs, List.not_mem_nil, false_implies, implies_true, and_true, and_self, true_and]) p_whole
theorem c_is_window (D : Df K mg "is_window" st_is_window ["day", "thing"]) (hb : ∀ y ∈ bn, mg y = none) (h_whole : Cal P w K mg base 1 "whole" 1 wf_whole)   : Cal P w K mg base 2 "is_window" 2 wf_is_window := by
  have g_whole : CalS P w K mg base 1 .fn "whole" 1 wf_whole := ⟨1, by decide, h_whole⟩
  exact fn_ok (m := m_is_window) (j := 1) t_is_window D hb (by unfold b_is_window; simp only [cSs, cSt, cOk, cPC, pthX, cAs, cOo, cIt, ct_srs, List.not_mem_nil, false_implies, implies_true, and_true, and_self, true_and, g_whole]) p_is_window
theorem c_is_board (D : Df K mg "is_board" st_is_board ["day", "thing"]) (hb : ∀ y ∈ bn, mg y = none) (h_is_window : Cal P w K mg base 2 "is_window" 2 wf_is_window)   : Cal P w K mg base 3 "is_board" 2 wf_is_board := by
  have g_is_window : CalS P w K mg base 2 .fn "is_window" 2 wf_is_window := ⟨2, by decide, h_is_window⟩
  exact fn_ok (m := m_is_board) (j := 2) t_is_board D hb (by unfold b_is_board; simp only [cSs, cSt, cOk, cPC, pthX, cAs, cOo, cIt, ct_srs, List.not_mem_nil, false_implies, implies_true, and_true, and_self, true_and, g_is_window]) p_is_board
theorem c_chosen (D : Df K mg "chosen" st_chosen ["p", "q", "one", "other", "soon"]) (hb : ∀ y ∈ bn, mg y = none)    : Cal P w K mg base 1 "chosen" 5 wf_chosen := by
  exact fn_ok (m := m_chosen) (j := 0) t_chosen D hb (by unfold b_chosen; simp only [cSs, cSt, cOk, cPC, pthX, cAs, cOo, cIt, ct_srs, List.not_mem_nil, false_implies, implies_true, and_true, and_self, true_and]) p_chosen
theorem c_blended (D : Df K mg "blended" st_blended ["ones", "others", "soon"]) (hb : ∀ y ∈ bn, mg y = none) (h_chosen : Cal P w K mg base 1 "chosen" 5 wf_chosen)   : Cal P w K mg base 2 "blended" 3 wf_blended := by
  have g_chosen : CalS P w K mg base 1 .fn "chosen" 5 wf_chosen := ⟨1, by decide, h_chosen⟩
  exact fn_ok (m := m_blended) (j := 1) t_blended D hb (by unfold b_blended; simp only [cSs, cSt, cOk, cPC, pthX, cAs, cOo, cIt, ct_srs, List.not_mem_nil, false_implies, implies_true, and_true, and_self, true_and, g_chosen]) p_blended
theorem c_sooner (D : Df K mg "sooner" st_sooner ["day", "one", "other"]) (hb : ∀ y ∈ bn, mg y = none) (h_blended : Cal P w K mg base 2 "blended" 3 wf_blended) (h_gathered : Cal P w K mg base 2 "gathered" 2 wf_gathered) (h_stretches : Cal P w K mg base 1 "stretches" 2 wf_stretches)   : Cal P w K mg base 3 "sooner" 3 wf_sooner := by
  have g_blended : CalS P w K mg base 2 .fn "blended" 3 wf_blended := ⟨2, by decide, h_blended⟩
  have g_gathered : CalS P w K mg base 2 .fn "gathered" 2 wf_gathered := ⟨2, by decide, h_gathered⟩
  have g_stretches : CalS P w K mg base 2 .fn "stretches" 2 wf_stretches := ⟨1, by decide, h_stretches⟩
  exact fn_ok (m := m_sooner) (j := 2) t_sooner D hb (by unfold b_sooner; simp only [cSs, cSt, cOk, cPC, pthX, cAs, cOo, cIt, ct_srs, List.not_mem_nil, false_implies, implies_true, and_true, and_self, true_and, g_blended, g_gathered, g_stretches]) p_sooner
theorem c_clock_of (D : Df K mg "clock_of" st_clock_of ["day", "board"]) (hb : ∀ y ∈ bn, mg y = none) (h_is_board : Cal P w K mg base 3 "is_board" 2 wf_is_board) (h_sooner : Cal P w K mg base 3 "sooner" 3 wf_sooner)   : Cal P w K mg base 4 "clock_of" 2 wf_clock_of := by
  have g_is_board : CalS P w K mg base 3 .fn "is_board" 2 wf_is_board := ⟨3, by decide, h_is_board⟩
  have g_sooner : CalS P w K mg base 3 .fn "sooner" 3 wf_sooner := ⟨3, by decide, h_sooner⟩
  exact fn_ok (m := m_clock_of) (j := 3) t_clock_of D hb (by unfold b_clock_of; simp only [cSs, cSt, cOk, cPC, pthX, cAs, cOo, cIt, ct_srs, List.not_mem_nil, false_implies, implies_true, and_true, and_self, true_and, g_is_board, g_sooner]) p_clock_of
theorem c__law_cell_at (D : Df K mg "_law_cell_at" st__law_cell_at ["script", "k"]) (hb : ∀ y ∈ bn, mg y = none)    : Cal P w K mg base 1 "_law_cell_at" 2 wf__law_cell_at := by
  exact fn_ok (m := m__law_cell_at) (j := 0) t__law_cell_at D hb (by unfold b__law_cell_at; simp only [cSs, cSt, cOk, cPC, pthX, cAs, cOo, cIt, ct_srs, List.not_mem_nil, false_implies, implies_true, and_true, and_self, true_and]) p__law_cell_at
theorem c__law_day (D : Df K mg "_law_day" st__law_day ["cell"]) (hb : ∀ y ∈ bn, mg y = none)    : Cal P w K mg base 1 "_law_day" 1 wf__law_day := by
  exact fn_ok (m := m__law_day) (j := 0) t__law_day D hb (by unfold b__law_day; simp only [cSs, cSt, cOk, cPC, pthX, cAs, cOo, cIt, ct_srs, List.not_mem_nil, false_implies, implies_true, and_true, and_self, true_and]) p__law_day
theorem c__law_stay (D : Df K mg "_law_stay" st__law_stay ["cell", "room"]) (hb : ∀ y ∈ bn, mg y = none)    : Cal P w K mg base 1 "_law_stay" 2 wf__law_stay := by
  exact fn_ok (m := m__law_stay) (j := 0) t__law_stay D hb (by unfold b__law_stay; simp only [cSs, cSt, cOk, cPC, pthX, cAs, cOo, cIt, ct_srs, List.not_mem_nil, false_implies, implies_true, and_true, and_self, true_and]) p__law_stay
theorem c__law_ride (D : Df K mg "_law_ride" st__law_ride ["cell", "day"]) (hb : ∀ y ∈ bn, mg y = none)    : Cal P w K mg base 1 "_law_ride" 2 wf__law_ride := by
  exact fn_ok (m := m__law_ride) (j := 0) t__law_ride D hb (by unfold b__law_ride; simp only [cSs, cSt, cOk, cPC, pthX, cAs, cOo, cIt, ct_srs, List.not_mem_nil, false_implies, implies_true, and_true, and_self, true_and]) p__law_ride
theorem c__law_many (D : Df K mg "_law_many" st__law_many ["script", "most"]) (hb : ∀ y ∈ bn, mg y = none) (h__law_cell_at : Cal P w K mg base 1 "_law_cell_at" 2 wf__law_cell_at)   : Cal P w K mg base 2 "_law_many" 2 wf__law_many := by
  have g__law_cell_at : CalS P w K mg base 1 .fn "_law_cell_at" 2 wf__law_cell_at := ⟨1, by decide, h__law_cell_at⟩
  exact fn_ok (m := m__law_many) (j := 1) t__law_many D hb (by unfold b__law_many; simp only [cSs, cSt, cOk, cPC, pthX, cAs, cOo, cIt, ct_srs, List.not_mem_nil, false_implies, implies_true, and_true, and_self, true_and, g__law_cell_at]) p__law_many
theorem c__law_board (D : Df K mg "_law_board" st__law_board ["script", "start", "most", "day"]) (hb : ∀ y ∈ bn, mg y = none) (h__law_ride : Cal P w K mg base 1 "_law_ride" 2 wf__law_ride) (h__law_stay : Cal P w K mg base 1 "_law_stay" 2 wf__law_stay)   : Cal P w K mg base 2 "_law_board" 4 wf__law_board := by
  have g__law_ride : CalS P w K mg base 1 .fn "_law_ride" 2 wf__law_ride := ⟨1, by decide, h__law_ride⟩
  have g__law_stay : CalS P w K mg base 1 .fn "_law_stay" 2 wf__law_stay := ⟨1, by decide, h__law_stay⟩
  exact fn_ok (m := m__law_board) (j := 1) t__law_board D hb (by unfold b__law_board; simp only [cSs, cSt, cOk, cPC, pthX, cAs, cOo, cIt, ct_srs, List.not_mem_nil, false_implies, implies_true, and_true, and_self, true_and, g__law_ride, g__law_stay]) p__law_board
theorem c__law_whole (D : Df K mg "_law_whole" st__law_whole ["found"]) (hb : ∀ y ∈ bn, mg y = none)    : Cal P w K mg base 1 "_law_whole" 1 wf__law_whole := by
  exact fn_ok (m := m__law_whole) (j := 0) t__law_whole D hb (by unfold b__law_whole; simp only [cSs, cSt, cOk, cPC, pthX, cAs, cOo, cIt, ct_srs, List.not_mem_nil, false_implies, implies_true, and_true, and_self, true_and]) p__law_whole
theorem c__law_piece (D : Df K mg "_law_piece" st__law_piece ["day", "board", "p", "q"]) (hb : ∀ y ∈ bn, mg y = none)    : Cal P w K mg base 1 "_law_piece" 4 wf__law_piece := by
  exact fn_ok (m := m__law_piece) (j := 0) t__law_piece D hb (by unfold b__law_piece; simp only [cSs, cSt, cOk, cPC, pthX, cAs, cOo, cIt, ct_srs, List.not_mem_nil, false_implies, implies_true, and_true, and_self, true_and]) p__law_piece
theorem c_law {f : Addr} {fd : FuncData} (F : L2.Fun K "law" "law" st_law f fd) (hb : ∀ y ∈ bn, mg y = none) (h__law_board : Cal P w K mg base 2 "_law_board" 4 wf__law_board) (h__law_cell_at : Cal P w K mg base 1 "_law_cell_at" 2 wf__law_cell_at) (h__law_day : Cal P w K mg base 1 "_law_day" 1 wf__law_day) (h__law_many : Cal P w K mg base 2 "_law_many" 2 wf__law_many) (h__law_piece : Cal P w K mg base 1 "_law_piece" 4 wf__law_piece) (h__law_whole : Cal P w K mg base 1 "_law_whole" 1 wf__law_whole) (h_clock_of : Cal P w K mg base 4 "clock_of" 2 wf_clock_of) (h_sum_of : Cal P w K mg base 2 "sum_of" 2 wf_sum_of)   : L2.FnOk P w K mg base L2.CX0 5 f fd ["script"] (spLaw K) := by
  have g__law_board : CalS P w K mg base 4 .fn "_law_board" 4 wf__law_board := ⟨2, by decide, h__law_board⟩
  have g__law_cell_at : CalS P w K mg base 4 .fn "_law_cell_at" 2 wf__law_cell_at := ⟨1, by decide, h__law_cell_at⟩
  have g__law_day : CalS P w K mg base 4 .fn "_law_day" 1 wf__law_day := ⟨1, by decide, h__law_day⟩
  have g__law_many : CalS P w K mg base 4 .fn "_law_many" 2 wf__law_many := ⟨2, by decide, h__law_many⟩
  have g__law_piece : CalS P w K mg base 4 .fn "_law_piece" 4 wf__law_piece := ⟨1, by decide, h__law_piece⟩
  have g__law_whole : CalS P w K mg base 4 .fn "_law_whole" 1 wf__law_whole := ⟨1, by decide, h__law_whole⟩
  have g_clock_of : CalS P w K mg base 4 .fn "clock_of" 2 wf_clock_of := ⟨4, by decide, h_clock_of⟩
  have g_sum_of : CalS P w K mg base 4 .fn "sum_of" 2 wf_sum_of := ⟨2, by decide, h_sum_of⟩
  exact law_ok (m := m_law) (j := 4) t_law F hb (by unfold b_law; simp only [cSs, cSt, cOk, cPC, pthX, cAs, cOo, cIt, ct_srs, List.not_mem_nil, false_implies, implies_true, and_true, and_self, true_and, g__law_board, g__law_cell_at, g__law_day, g__law_many, g__law_piece, g__law_whole, g_clock_of, g_sum_of]) p_law
end
theorem all_mk {l : PySem.W.OpenLaw} {w : World} {K : PySem.W.Frag} {h : Heap} {mg : Str → Option Value} {fa f1 f2 f3 f4 f5 f6 f7 f8 f9 f10 f11 f12 f13 f14 f15 f16 f17 f18 f19 f20 f21 : Addr} (X : K.In h) (G : h.Ns mainGlobals mg) (hfa : mg "law" = some (.ref fa))
    {od1 an1 : Option Addr} {sl1 : Array (Option Value)} {oc1 kV1 dc1 pm1 cd1 ct1 : Value}
    {od2 an2 : Option Addr} {sl2 : Array (Option Value)} {oc2 kV2 dc2 pm2 cd2 ct2 : Value}
    {od3 an3 : Option Addr} {sl3 : Array (Option Value)} {oc3 kV3 dc3 pm3 cd3 ct3 : Value}
    {od4 an4 : Option Addr} {sl4 : Array (Option Value)} {oc4 kV4 dc4 pm4 cd4 ct4 : Value}
    {od5 an5 : Option Addr} {sl5 : Array (Option Value)} {oc5 kV5 dc5 pm5 cd5 ct5 : Value}
    {od6 an6 : Option Addr} {sl6 : Array (Option Value)} {oc6 kV6 dc6 pm6 cd6 ct6 : Value}
    {od7 an7 : Option Addr} {sl7 : Array (Option Value)} {oc7 kV7 dc7 pm7 cd7 ct7 : Value}
    {od8 an8 : Option Addr} {sl8 : Array (Option Value)} {oc8 kV8 dc8 pm8 cd8 ct8 : Value}
    {od9 an9 : Option Addr} {sl9 : Array (Option Value)} {oc9 kV9 dc9 pm9 cd9 ct9 : Value}
    {od10 an10 : Option Addr} {sl10 : Array (Option Value)} {oc10 kV10 dc10 pm10 cd10 ct10 : Value}
    {od11 an11 : Option Addr} {sl11 : Array (Option Value)} {oc11 kV11 dc11 pm11 cd11 ct11 : Value}
    {od12 an12 : Option Addr} {sl12 : Array (Option Value)} {oc12 kV12 dc12 pm12 cd12 ct12 : Value}
    {od13 an13 : Option Addr} {sl13 : Array (Option Value)} {oc13 kV13 dc13 pm13 cd13 ct13 : Value}
    {od14 an14 : Option Addr} {sl14 : Array (Option Value)} {oc14 kV14 dc14 pm14 cd14 ct14 : Value}
    {od15 an15 : Option Addr} {sl15 : Array (Option Value)} {oc15 kV15 dc15 pm15 cd15 ct15 : Value}
    {od16 an16 : Option Addr} {sl16 : Array (Option Value)} {oc16 kV16 dc16 pm16 cd16 ct16 : Value}
    {od17 an17 : Option Addr} {sl17 : Array (Option Value)} {oc17 kV17 dc17 pm17 cd17 ct17 : Value}
    {od18 an18 : Option Addr} {sl18 : Array (Option Value)} {oc18 kV18 dc18 pm18 cd18 ct18 : Value}
    {od19 an19 : Option Addr} {sl19 : Array (Option Value)} {oc19 kV19 dc19 pm19 cd19 ct19 : Value}
    {od20 an20 : Option Addr} {sl20 : Array (Option Value)} {oc20 kV20 dc20 pm20 cd20 ct20 : Value}
    {od21 an21 : Option Addr} {sl21 : Array (Option Value)} {oc21 kV21 dc21 pm21 cd21 ct21 : Value}
    (a1 : PySem.W.nsIn K mainGlobals "stretches" = some (some (.ref f1)))
    (l1 : K.lookup f1 = some ⟨oc1, od1, .func (PySem.W.fnOf "stretches" "stretches" (L2.defArgs st_stretches) (L2.defBody st_stretches) (L2.defScope st_stretches) .none kV1 dc1 pm1 an1 cd1 ct1), sl1⟩)
    (c1 : PySem.W.codeIn K cd1 "stretches" = true) (k1 : PySem.W.keepIn K (.ref f1) = true)
    (a2 : PySem.W.nsIn K mainGlobals "told_at" = some (some (.ref f2)))
    (l2 : K.lookup f2 = some ⟨oc2, od2, .func (PySem.W.fnOf "told_at" "told_at" (L2.defArgs st_told_at) (L2.defBody st_told_at) (L2.defScope st_told_at) .none kV2 dc2 pm2 an2 cd2 ct2), sl2⟩)
    (c2 : PySem.W.codeIn K cd2 "told_at" = true) (k2 : PySem.W.keepIn K (.ref f2) = true)
    (a3 : PySem.W.nsIn K mainGlobals "joined" = some (some (.ref f3)))
    (l3 : K.lookup f3 = some ⟨oc3, od3, .func (PySem.W.fnOf "joined" "joined" (L2.defArgs st_joined) (L2.defBody st_joined) (L2.defScope st_joined) .none kV3 dc3 pm3 an3 cd3 ct3), sl3⟩)
    (c3 : PySem.W.codeIn K cd3 "joined" = true) (k3 : PySem.W.keepIn K (.ref f3) = true)
    (a4 : PySem.W.nsIn K mainGlobals "gathered" = some (some (.ref f4)))
    (l4 : K.lookup f4 = some ⟨oc4, od4, .func (PySem.W.fnOf "gathered" "gathered" (L2.defArgs st_gathered) (L2.defBody st_gathered) (L2.defScope st_gathered) .none kV4 dc4 pm4 an4 cd4 ct4), sl4⟩)
    (c4 : PySem.W.codeIn K cd4 "gathered" = true) (k4 : PySem.W.keepIn K (.ref f4) = true)
    (a5 : PySem.W.nsIn K mainGlobals "sum_of" = some (some (.ref f5)))
    (l5 : K.lookup f5 = some ⟨oc5, od5, .func (PySem.W.fnOf "sum_of" "sum_of" (L2.defArgs st_sum_of) (L2.defBody st_sum_of) (L2.defScope st_sum_of) .none kV5 dc5 pm5 an5 cd5 ct5), sl5⟩)
    (c5 : PySem.W.codeIn K cd5 "sum_of" = true) (k5 : PySem.W.keepIn K (.ref f5) = true)
    (a6 : PySem.W.nsIn K mainGlobals "whole" = some (some (.ref f6)))
    (l6 : K.lookup f6 = some ⟨oc6, od6, .func (PySem.W.fnOf "whole" "whole" (L2.defArgs st_whole) (L2.defBody st_whole) (L2.defScope st_whole) .none kV6 dc6 pm6 an6 cd6 ct6), sl6⟩)
    (c6 : PySem.W.codeIn K cd6 "whole" = true) (k6 : PySem.W.keepIn K (.ref f6) = true)
    (a7 : PySem.W.nsIn K mainGlobals "is_window" = some (some (.ref f7)))
    (l7 : K.lookup f7 = some ⟨oc7, od7, .func (PySem.W.fnOf "is_window" "is_window" (L2.defArgs st_is_window) (L2.defBody st_is_window) (L2.defScope st_is_window) .none kV7 dc7 pm7 an7 cd7 ct7), sl7⟩)
    (c7 : PySem.W.codeIn K cd7 "is_window" = true) (k7 : PySem.W.keepIn K (.ref f7) = true)
    (a8 : PySem.W.nsIn K mainGlobals "is_board" = some (some (.ref f8)))
    (l8 : K.lookup f8 = some ⟨oc8, od8, .func (PySem.W.fnOf "is_board" "is_board" (L2.defArgs st_is_board) (L2.defBody st_is_board) (L2.defScope st_is_board) .none kV8 dc8 pm8 an8 cd8 ct8), sl8⟩)
    (c8 : PySem.W.codeIn K cd8 "is_board" = true) (k8 : PySem.W.keepIn K (.ref f8) = true)
    (a9 : PySem.W.nsIn K mainGlobals "chosen" = some (some (.ref f9)))
    (l9 : K.lookup f9 = some ⟨oc9, od9, .func (PySem.W.fnOf "chosen" "chosen" (L2.defArgs st_chosen) (L2.defBody st_chosen) (L2.defScope st_chosen) .none kV9 dc9 pm9 an9 cd9 ct9), sl9⟩)
    (c9 : PySem.W.codeIn K cd9 "chosen" = true) (k9 : PySem.W.keepIn K (.ref f9) = true)
    (a10 : PySem.W.nsIn K mainGlobals "blended" = some (some (.ref f10)))
    (l10 : K.lookup f10 = some ⟨oc10, od10, .func (PySem.W.fnOf "blended" "blended" (L2.defArgs st_blended) (L2.defBody st_blended) (L2.defScope st_blended) .none kV10 dc10 pm10 an10 cd10 ct10), sl10⟩)
    (c10 : PySem.W.codeIn K cd10 "blended" = true) (k10 : PySem.W.keepIn K (.ref f10) = true)
    (a11 : PySem.W.nsIn K mainGlobals "sooner" = some (some (.ref f11)))
    (l11 : K.lookup f11 = some ⟨oc11, od11, .func (PySem.W.fnOf "sooner" "sooner" (L2.defArgs st_sooner) (L2.defBody st_sooner) (L2.defScope st_sooner) .none kV11 dc11 pm11 an11 cd11 ct11), sl11⟩)
    (c11 : PySem.W.codeIn K cd11 "sooner" = true) (k11 : PySem.W.keepIn K (.ref f11) = true)
    (a12 : PySem.W.nsIn K mainGlobals "clock_of" = some (some (.ref f12)))
    (l12 : K.lookup f12 = some ⟨oc12, od12, .func (PySem.W.fnOf "clock_of" "clock_of" (L2.defArgs st_clock_of) (L2.defBody st_clock_of) (L2.defScope st_clock_of) .none kV12 dc12 pm12 an12 cd12 ct12), sl12⟩)
    (c12 : PySem.W.codeIn K cd12 "clock_of" = true) (k12 : PySem.W.keepIn K (.ref f12) = true)
    (a13 : PySem.W.nsIn K mainGlobals "_law_cell_at" = some (some (.ref f13)))
    (l13 : K.lookup f13 = some ⟨oc13, od13, .func (PySem.W.fnOf "_law_cell_at" "_law_cell_at" (L2.defArgs st__law_cell_at) (L2.defBody st__law_cell_at) (L2.defScope st__law_cell_at) .none kV13 dc13 pm13 an13 cd13 ct13), sl13⟩)
    (c13 : PySem.W.codeIn K cd13 "_law_cell_at" = true) (k13 : PySem.W.keepIn K (.ref f13) = true)
    (a14 : PySem.W.nsIn K mainGlobals "_law_day" = some (some (.ref f14)))
    (l14 : K.lookup f14 = some ⟨oc14, od14, .func (PySem.W.fnOf "_law_day" "_law_day" (L2.defArgs st__law_day) (L2.defBody st__law_day) (L2.defScope st__law_day) .none kV14 dc14 pm14 an14 cd14 ct14), sl14⟩)
    (c14 : PySem.W.codeIn K cd14 "_law_day" = true) (k14 : PySem.W.keepIn K (.ref f14) = true)
    (a15 : PySem.W.nsIn K mainGlobals "_law_stay" = some (some (.ref f15)))
    (l15 : K.lookup f15 = some ⟨oc15, od15, .func (PySem.W.fnOf "_law_stay" "_law_stay" (L2.defArgs st__law_stay) (L2.defBody st__law_stay) (L2.defScope st__law_stay) .none kV15 dc15 pm15 an15 cd15 ct15), sl15⟩)
    (c15 : PySem.W.codeIn K cd15 "_law_stay" = true) (k15 : PySem.W.keepIn K (.ref f15) = true)
    (a16 : PySem.W.nsIn K mainGlobals "_law_ride" = some (some (.ref f16)))
    (l16 : K.lookup f16 = some ⟨oc16, od16, .func (PySem.W.fnOf "_law_ride" "_law_ride" (L2.defArgs st__law_ride) (L2.defBody st__law_ride) (L2.defScope st__law_ride) .none kV16 dc16 pm16 an16 cd16 ct16), sl16⟩)
    (c16 : PySem.W.codeIn K cd16 "_law_ride" = true) (k16 : PySem.W.keepIn K (.ref f16) = true)
    (a17 : PySem.W.nsIn K mainGlobals "_law_many" = some (some (.ref f17)))
    (l17 : K.lookup f17 = some ⟨oc17, od17, .func (PySem.W.fnOf "_law_many" "_law_many" (L2.defArgs st__law_many) (L2.defBody st__law_many) (L2.defScope st__law_many) .none kV17 dc17 pm17 an17 cd17 ct17), sl17⟩)
    (c17 : PySem.W.codeIn K cd17 "_law_many" = true) (k17 : PySem.W.keepIn K (.ref f17) = true)
    (a18 : PySem.W.nsIn K mainGlobals "_law_board" = some (some (.ref f18)))
    (l18 : K.lookup f18 = some ⟨oc18, od18, .func (PySem.W.fnOf "_law_board" "_law_board" (L2.defArgs st__law_board) (L2.defBody st__law_board) (L2.defScope st__law_board) .none kV18 dc18 pm18 an18 cd18 ct18), sl18⟩)
    (c18 : PySem.W.codeIn K cd18 "_law_board" = true) (k18 : PySem.W.keepIn K (.ref f18) = true)
    (a19 : PySem.W.nsIn K mainGlobals "_law_whole" = some (some (.ref f19)))
    (l19 : K.lookup f19 = some ⟨oc19, od19, .func (PySem.W.fnOf "_law_whole" "_law_whole" (L2.defArgs st__law_whole) (L2.defBody st__law_whole) (L2.defScope st__law_whole) .none kV19 dc19 pm19 an19 cd19 ct19), sl19⟩)
    (c19 : PySem.W.codeIn K cd19 "_law_whole" = true) (k19 : PySem.W.keepIn K (.ref f19) = true)
    (a20 : PySem.W.nsIn K mainGlobals "_law_piece" = some (some (.ref f20)))
    (l20 : K.lookup f20 = some ⟨oc20, od20, .func (PySem.W.fnOf "_law_piece" "_law_piece" (L2.defArgs st__law_piece) (L2.defBody st__law_piece) (L2.defScope st__law_piece) .none kV20 dc20 pm20 an20 cd20 ct20), sl20⟩)
    (c20 : PySem.W.codeIn K cd20 "_law_piece" = true) (k20 : PySem.W.keepIn K (.ref f20) = true)
    (a21 : PySem.W.nsIn K mainGlobals "law" = some (some (.ref f21)))
    (l21 : K.lookup f21 = some ⟨oc21, od21, .func (PySem.W.fnOf "law" "law" (L2.defArgs st_law) (L2.defBody st_law) (L2.defScope st_law) .none kV21 dc21 pm21 an21 cd21 ct21), sl21⟩)
    (c21 : PySem.W.codeIn K cd21 "law" = true) (k21 : PySem.W.keepIn K (.ref f21) = true)
    (z1 : PySem.W.nsIn K mainGlobals "bool" = some none)
    (z2 : PySem.W.nsIn K mainGlobals "int" = some none)
    (z3 : PySem.W.nsIn K mainGlobals "isinstance" = some none)
    (z4 : PySem.W.nsIn K mainGlobals "len" = some none)
    (z5 : PySem.W.nsIn K mainGlobals "list" = some none)
    (z6 : PySem.W.nsIn K mainGlobals "max" = some none)
    (z7 : PySem.W.nsIn K mainGlobals "min" = some none)
    (z8 : PySem.W.nsIn K mainGlobals "range" = some none)
    (z9 : PySem.W.nsIn K mainGlobals "reversed" = some none)
    (z10 : PySem.W.nsIn K mainGlobals "set" = some none)
    (z11 : PySem.W.nsIn K mainGlobals "sorted" = some none)
    (z12 : PySem.W.nsIn K mainGlobals "tuple" = some none)
    : ∃ fd : FuncData, (∀ (s : Shared) (v : Value), BindsTo s fd ⟨[v], []⟩ [("script", v)]) ∧ ∀ base : Heap, K.In base → base.Ns mainGlobals mg → L2.FnOk l.prog w K mg base L2.CX0 5 fa fd ["script"] (spLaw K) := by
  have e := hfa.symm.trans (PySem.W.mg_of X G a21)
  cases e
  have hb : ∀ y ∈ bn, mg y = none := by
    intro y hy
    simp only [bn, List.mem_cons, List.not_mem_nil, or_false] at hy
    rcases hy with rfl | rfl | rfl | rfl | rfl | rfl | rfl | rfl | rfl | rfl | rfl | rfl
    · exact PySem.W.mg_none_of X G z1
    · exact PySem.W.mg_none_of X G z2
    · exact PySem.W.mg_none_of X G z3
    · exact PySem.W.mg_none_of X G z4
    · exact PySem.W.mg_none_of X G z5
    · exact PySem.W.mg_none_of X G z6
    · exact PySem.W.mg_none_of X G z7
    · exact PySem.W.mg_none_of X G z8
    · exact PySem.W.mg_none_of X G z9
    · exact PySem.W.mg_none_of X G z10
    · exact PySem.W.mg_none_of X G z11
    · exact PySem.W.mg_none_of X G z12
  have F1 := L2.fun_mk (st := st_stretches) l1 c1 k1
  have D1 : Df K mg "stretches" st_stretches ["day", "clock"] := ⟨_, _, F1, F1.binds (ps := ["day", "clock"]) fun _ _ _ _ _ _ us hl => match us, hl with | [_, _], _ => rfl, PySem.W.mg_of X G a1⟩
  have F2 := L2.fun_mk (st := st_told_at) l2 c2 k2
  have D2 : Df K mg "told_at" st_told_at ["part", "x"] := ⟨_, _, F2, F2.binds (ps := ["part", "x"]) fun _ _ _ _ _ _ us hl => match us, hl with | [_, _], _ => rfl, PySem.W.mg_of X G a2⟩
  have F3 := L2.fun_mk (st := st_joined) l3 c3 k3
  have D3 : Df K mg "joined" st_joined ["rows"] := ⟨_, _, F3, F3.binds (ps := ["rows"]) fun _ _ _ _ _ _ us hl => match us, hl with | [_], _ => rfl, PySem.W.mg_of X G a3⟩
  have F4 := L2.fun_mk (st := st_gathered) l4 c4 k4
  have D4 : Df K mg "gathered" st_gathered ["day", "parts"] := ⟨_, _, F4, F4.binds (ps := ["day", "parts"]) fun _ _ _ _ _ _ us hl => match us, hl with | [_, _], _ => rfl, PySem.W.mg_of X G a4⟩
  have F5 := L2.fun_mk (st := st_sum_of) l5 c5 k5
  have D5 : Df K mg "sum_of" st_sum_of ["day", "clock"] := ⟨_, _, F5, F5.binds (ps := ["day", "clock"]) fun _ _ _ _ _ _ us hl => match us, hl with | [_, _], _ => rfl, PySem.W.mg_of X G a5⟩
  have F6 := L2.fun_mk (st := st_whole) l6 c6 k6
  have D6 : Df K mg "whole" st_whole ["thing"] := ⟨_, _, F6, F6.binds (ps := ["thing"]) fun _ _ _ _ _ _ us hl => match us, hl with | [_], _ => rfl, PySem.W.mg_of X G a6⟩
  have F7 := L2.fun_mk (st := st_is_window) l7 c7 k7
  have D7 : Df K mg "is_window" st_is_window ["day", "thing"] := ⟨_, _, F7, F7.binds (ps := ["day", "thing"]) fun _ _ _ _ _ _ us hl => match us, hl with | [_, _], _ => rfl, PySem.W.mg_of X G a7⟩
  have F8 := L2.fun_mk (st := st_is_board) l8 c8 k8
  have D8 : Df K mg "is_board" st_is_board ["day", "thing"] := ⟨_, _, F8, F8.binds (ps := ["day", "thing"]) fun _ _ _ _ _ _ us hl => match us, hl with | [_, _], _ => rfl, PySem.W.mg_of X G a8⟩
  have F9 := L2.fun_mk (st := st_chosen) l9 c9 k9
  have D9 : Df K mg "chosen" st_chosen ["p", "q", "one", "other", "soon"] := ⟨_, _, F9, F9.binds (ps := ["p", "q", "one", "other", "soon"]) fun _ _ _ _ _ _ us hl => match us, hl with | [_, _, _, _, _], _ => rfl, PySem.W.mg_of X G a9⟩
  have F10 := L2.fun_mk (st := st_blended) l10 c10 k10
  have D10 : Df K mg "blended" st_blended ["ones", "others", "soon"] := ⟨_, _, F10, F10.binds (ps := ["ones", "others", "soon"]) fun _ _ _ _ _ _ us hl => match us, hl with | [_, _, _], _ => rfl, PySem.W.mg_of X G a10⟩
  have F11 := L2.fun_mk (st := st_sooner) l11 c11 k11
  have D11 : Df K mg "sooner" st_sooner ["day", "one", "other"] := ⟨_, _, F11, F11.binds (ps := ["day", "one", "other"]) fun _ _ _ _ _ _ us hl => match us, hl with | [_, _, _], _ => rfl, PySem.W.mg_of X G a11⟩
  have F12 := L2.fun_mk (st := st_clock_of) l12 c12 k12
  have D12 : Df K mg "clock_of" st_clock_of ["day", "board"] := ⟨_, _, F12, F12.binds (ps := ["day", "board"]) fun _ _ _ _ _ _ us hl => match us, hl with | [_, _], _ => rfl, PySem.W.mg_of X G a12⟩
  have F13 := L2.fun_mk (st := st__law_cell_at) l13 c13 k13
  have D13 : Df K mg "_law_cell_at" st__law_cell_at ["script", "k"] := ⟨_, _, F13, F13.binds (ps := ["script", "k"]) fun _ _ _ _ _ _ us hl => match us, hl with | [_, _], _ => rfl, PySem.W.mg_of X G a13⟩
  have F14 := L2.fun_mk (st := st__law_day) l14 c14 k14
  have D14 : Df K mg "_law_day" st__law_day ["cell"] := ⟨_, _, F14, F14.binds (ps := ["cell"]) fun _ _ _ _ _ _ us hl => match us, hl with | [_], _ => rfl, PySem.W.mg_of X G a14⟩
  have F15 := L2.fun_mk (st := st__law_stay) l15 c15 k15
  have D15 : Df K mg "_law_stay" st__law_stay ["cell", "room"] := ⟨_, _, F15, F15.binds (ps := ["cell", "room"]) fun _ _ _ _ _ _ us hl => match us, hl with | [_, _], _ => rfl, PySem.W.mg_of X G a15⟩
  have F16 := L2.fun_mk (st := st__law_ride) l16 c16 k16
  have D16 : Df K mg "_law_ride" st__law_ride ["cell", "day"] := ⟨_, _, F16, F16.binds (ps := ["cell", "day"]) fun _ _ _ _ _ _ us hl => match us, hl with | [_, _], _ => rfl, PySem.W.mg_of X G a16⟩
  have F17 := L2.fun_mk (st := st__law_many) l17 c17 k17
  have D17 : Df K mg "_law_many" st__law_many ["script", "most"] := ⟨_, _, F17, F17.binds (ps := ["script", "most"]) fun _ _ _ _ _ _ us hl => match us, hl with | [_, _], _ => rfl, PySem.W.mg_of X G a17⟩
  have F18 := L2.fun_mk (st := st__law_board) l18 c18 k18
  have D18 : Df K mg "_law_board" st__law_board ["script", "start", "most", "day"] := ⟨_, _, F18, F18.binds (ps := ["script", "start", "most", "day"]) fun _ _ _ _ _ _ us hl => match us, hl with | [_, _, _, _], _ => rfl, PySem.W.mg_of X G a18⟩
  have F19 := L2.fun_mk (st := st__law_whole) l19 c19 k19
  have D19 : Df K mg "_law_whole" st__law_whole ["found"] := ⟨_, _, F19, F19.binds (ps := ["found"]) fun _ _ _ _ _ _ us hl => match us, hl with | [_], _ => rfl, PySem.W.mg_of X G a19⟩
  have F20 := L2.fun_mk (st := st__law_piece) l20 c20 k20
  have D20 : Df K mg "_law_piece" st__law_piece ["day", "board", "p", "q"] := ⟨_, _, F20, F20.binds (ps := ["day", "board", "p", "q"]) fun _ _ _ _ _ _ us hl => match us, hl with | [_, _, _, _], _ => rfl, PySem.W.mg_of X G a20⟩
  refine ⟨PySem.W.fnOf "law" "law" (L2.defArgs st_law) (L2.defBody st_law) (L2.defScope st_law) .none kV21 dc21 pm21 an21 cd21 ct21, fun s v => .of_eq rfl, fun base _ _ => ?_⟩
  have h_stretches := c_stretches (P := l.prog) (w := w) (base := base) D1 hb 
  have h_told_at := c_told_at (P := l.prog) (w := w) (base := base) D2 hb 
  have h_joined := c_joined (P := l.prog) (w := w) (base := base) D3 hb 
  have h_gathered := c_gathered (P := l.prog) (w := w) (base := base) D4 hb h_joined h_told_at
  have h_sum_of := c_sum_of (P := l.prog) (w := w) (base := base) D5 hb h_stretches
  have h_whole := c_whole (P := l.prog) (w := w) (base := base) D6 hb 
  have h_is_window := c_is_window (P := l.prog) (w := w) (base := base) D7 hb h_whole
  have h_is_board := c_is_board (P := l.prog) (w := w) (base := base) D8 hb h_is_window
  have h_chosen := c_chosen (P := l.prog) (w := w) (base := base) D9 hb 
  have h_blended := c_blended (P := l.prog) (w := w) (base := base) D10 hb h_chosen
  have h_sooner := c_sooner (P := l.prog) (w := w) (base := base) D11 hb h_blended h_gathered h_stretches
  have h_clock_of := c_clock_of (P := l.prog) (w := w) (base := base) D12 hb h_is_board h_sooner
  have h__law_cell_at := c__law_cell_at (P := l.prog) (w := w) (base := base) D13 hb 
  have h__law_day := c__law_day (P := l.prog) (w := w) (base := base) D14 hb 
  have h__law_stay := c__law_stay (P := l.prog) (w := w) (base := base) D15 hb 
  have h__law_ride := c__law_ride (P := l.prog) (w := w) (base := base) D16 hb 
  have h__law_many := c__law_many (P := l.prog) (w := w) (base := base) D17 hb h__law_cell_at
  have h__law_board := c__law_board (P := l.prog) (w := w) (base := base) D18 hb h__law_ride h__law_stay
  have h__law_whole := c__law_whole (P := l.prog) (w := w) (base := base) D19 hb 
  have h__law_piece := c__law_piece (P := l.prog) (w := w) (base := base) D20 hb 
  exact c_law (L2.fun_mk (st := st_law) l21 c21 k21) hb h__law_board h__law_cell_at h__law_day h__law_many h__law_piece h__law_whole h_clock_of h_sum_of
end K34

open PySem PySem.W PyProof.Rows in
set_option maxRecDepth 100000 in
set_option maxHeartbeats 0 in
theorem PySem.Challenge.cw_fordbook_k34_the_sum_of_waits_holds : PySem.Challenge.rw_fordbook_k34_the_sum_of_waits.Holds := by
  w_on; o_law; k_head; (case hw => w_witness2)
  k_fill
  refine PL.walk (l := PySem.Challenge.rw_fordbook_k34_the_sum_of_waits) (k := 5) rfl rfl (fun w h Y => PySem.W.kIn_of Y) (by decide) ?F
  case F =>
    intro w mg fa h KX G hmg
    refine' K34.all_mk KX G hmg ?a1 ?l1 ?c1 ?k1 ?a2 ?l2 ?c2 ?k2 ?a3 ?l3 ?c3 ?k3 ?a4 ?l4 ?c4 ?k4 ?a5 ?l5 ?c5 ?k5 ?a6 ?l6 ?c6 ?k6 ?a7 ?l7 ?c7 ?k7 ?a8 ?l8 ?c8 ?k8 ?a9 ?l9 ?c9 ?k9 ?a10 ?l10 ?c10 ?k10 ?a11 ?l11 ?c11 ?k11 ?a12 ?l12 ?c12 ?k12 ?a13 ?l13 ?c13 ?k13 ?a14 ?l14 ?c14 ?k14 ?a15 ?l15 ?c15 ?k15 ?a16 ?l16 ?c16 ?k16 ?a17 ?l17 ?c17 ?k17 ?a18 ?l18 ?c18 ?k18 ?a19 ?l19 ?c19 ?k19 ?a20 ?l20 ?c20 ?k20 ?a21 ?l21 ?c21 ?k21 ?z1 ?z2 ?z3 ?z4 ?z5 ?z6 ?z7 ?z8 ?z9 ?z10 ?z11 ?z12
    (case a1 => k_is)
    (case l1 => k_is)
    (case c1 => k_is)
    (case k1 => k_is)
    (case a2 => k_is)
    (case l2 => k_is)
    (case c2 => k_is)
    (case k2 => k_is)
    (case a3 => k_is)
    (case l3 => k_is)
    (case c3 => k_is)
    (case k3 => k_is)
    (case a4 => k_is)
    (case l4 => k_is)
    (case c4 => k_is)
    (case k4 => k_is)
    (case a5 => k_is)
    (case l5 => k_is)
    (case c5 => k_is)
    (case k5 => k_is)
    (case a6 => k_is)
    (case l6 => k_is)
    (case c6 => k_is)
    (case k6 => k_is)
    (case a7 => k_is)
    (case l7 => k_is)
    (case c7 => k_is)
    (case k7 => k_is)
    (case a8 => k_is)
    (case l8 => k_is)
    (case c8 => k_is)
    (case k8 => k_is)
    (case a9 => k_is)
    (case l9 => k_is)
    (case c9 => k_is)
    (case k9 => k_is)
    (case a10 => k_is)
    (case l10 => k_is)
    (case c10 => k_is)
    (case k10 => k_is)
    (case a11 => k_is)
    (case l11 => k_is)
    (case c11 => k_is)
    (case k11 => k_is)
    (case a12 => k_is)
    (case l12 => k_is)
    (case c12 => k_is)
    (case k12 => k_is)
    (case a13 => k_is)
    (case l13 => k_is)
    (case c13 => k_is)
    (case k13 => k_is)
    (case a14 => k_is)
    (case l14 => k_is)
    (case c14 => k_is)
    (case k14 => k_is)
    (case a15 => k_is)
    (case l15 => k_is)
    (case c15 => k_is)
    (case k15 => k_is)
    (case a16 => k_is)
    (case l16 => k_is)
    (case c16 => k_is)
    (case k16 => k_is)
    (case a17 => k_is)
    (case l17 => k_is)
    (case c17 => k_is)
    (case k17 => k_is)
    (case a18 => k_is)
    (case l18 => k_is)
    (case c18 => k_is)
    (case k18 => k_is)
    (case a19 => k_is)
    (case l19 => k_is)
    (case c19 => k_is)
    (case k19 => k_is)
    (case a20 => k_is)
    (case l20 => k_is)
    (case c20 => k_is)
    (case k20 => k_is)
    (case a21 => k_is)
    (case l21 => k_is)
    (case c21 => k_is)
    (case k21 => k_is)
    (case z1 => k_is)
    (case z2 => k_is)
    (case z3 => k_is)
    (case z4 => k_is)
    (case z5 => k_is)
    (case z6 => k_is)
    (case z7 => k_is)
    (case z8 => k_is)
    (case z9 => k_is)
    (case z10 => k_is)
    (case z11 => k_is)
    (case z12 => k_is)
#print axioms PySem.Challenge.cw_fordbook_k34_the_sum_of_waits_holds
