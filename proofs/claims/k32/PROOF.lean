import PyProof.Rows.All
import Wide.All
import OpenK.AllK
import Wide.FinOn
import KE.KStateDown
import HandS.ForMost
import HandS.More
import HandS.Walk
import HandS.Wide
import HandS.IsInst
import HandS.RaiseMore
import HandS.Style
import HandS.Deep
import HandS.MakeKwOnly
import HandS.WordsExc
import HandS.Defaults
import HandS.Head0
import HandS.Head1
import HandS.Head2
import HandS.HeadEnd
import HandS.HeadHook1
import HandS.HeadHook2
import HandS.Codes
import HandS.WideMore
import KE.KIntText
import HandS.ExcInit
import HandS.ExcField
import HandS.ExcIs
import HandS.ExcOwn
import HandS.TryMany
import HandS.HotCalls
import HandS.Flow
import KE.KTryMore
import KE.KExcInit
import KE.KExcIs
import PyProof.Conv_int_bool
import HandS.DictComp
import HandS.DeepEq
import HandS.TupAny
import PySem.Challenge.RW_restorechain_k32_house_refused
set_option Elab.async false
set_option linter.all false
set_option maxRecDepth 100000
set_option maxHeartbeats 4000000
namespace RC
open PySem PySem.Spec PyProof.Rows L2
/-! ### resources -/
abbrev Cell := Addr × HO
def Ext (F F' : Hp) : Prop := ∀ a o, F a = some o → F' a = some o
theorem Ext.refl (F : Hp) : Ext F F := fun _ _ h => h
theorem Ext.trans {F G H : Hp} (a : Ext F G) (b : Ext G H) : Ext F H := fun x o h => b x o (a x o h)
theorem Ext.new {H : Hp} {p : Addr} {o : HO} (h : H p = none) : Ext H (upd H p o) := fun a u e => by
  rw [upd_ne (ne_of_none e h)]
  exact e
theorem Ext.rd {H H' : Hp} {a : Addr} {u : HO} (e : Ext H H') (h : Rd H a u) : Rd H' a u := by
  rcases h with h | ⟨o, h⟩
  · exact Or.inl (e a _ h)
  · exact Or.inr ⟨o, e a _ h⟩
theorem Ext.sqL {K : PySem.W.Frag} {H H' : Hp} {a : Addr} {xs : List V} (e : Ext H H') (h : SqL K H a xs) : SqL K H' a xs := by
  rcases h with h | h
  · exact Or.inl (e.rd h)
  · exact Or.inr h
theorem Ext.sqT {K : PySem.W.Frag} {H H' : Hp} {a : Addr} {xs : List V} (e : Ext H H') (h : SqT K H a xs) : SqT K H' a xs := by
  rcases h with h | h
  · exact Or.inl (e.rd h)
  · exact Or.inr h
mutual
theorem Dp_ext {K : PySem.W.Frag} {H H' : Hp} (e : Ext H H') : ∀ {v : V} {d : PyData}, Dp K H v d → Dp K H' v d
  | _, _, .non => .non
  | _, _, .bl b => .bl b
  | _, _, .int i => .int i
  | _, _, .str x => .str x
  | _, _, .lst h ds => .lst (e.sqL h) (DpAll_ext e ds)
  | _, _, .tup h ds => .tup (e.sqT h) (DpAll_ext e ds)
theorem DpAll_ext {K : PySem.W.Frag} {H H' : Hp} (e : Ext H H') : ∀ {vs : List V} {ds : List PyData}, DpAll K H vs ds → DpAll K H' vs ds
  | _, _, .nil => .nil
  | _, _, .cons h r => .cons (Dp_ext e h) (DpAll_ext e r)
end
structure Res where
  on : Hp → List Cell → Prop
  mono : ∀ F F' l, Ext F F' → on F l → on F' l
/-- the object o stands at p, owned -/
def pt (p : Addr) (o : HO) : Res := ⟨fun _ l => l = [(p, o)], fun _ _ _ _ h => h⟩
/-- the object o stands at p for ever -/
def fz (p : Addr) (o : HO) : Res := ⟨fun F l => l = [] ∧ F p = some o, fun _ _ _ e h => ⟨h.1, e _ _ h.2⟩⟩
/-- v is the data d for ever -/
def dt (K : PySem.W.Frag) (v : V) (d : PyData) : Res := ⟨fun F l => l = [] ∧ Dp K F v d, fun _ _ _ e h => ⟨h.1, Dp_ext e h.2⟩⟩
def sp2 (R S : Res) : Res := ⟨fun F l => ∃ l1 l2, l = l1 ++ l2 ∧ R.on F l1 ∧ S.on F l2, fun _ _ _ e ⟨l1, l2, h, a, b⟩ => ⟨l1, l2, h, R.mono _ _ _ e a, S.mono _ _ _ e b⟩⟩
def exi {α : Type} (R : α → Res) : Res := ⟨fun F l => ∃ x, (R x).on F l, fun _ _ _ e ⟨x, h⟩ => ⟨x, (R x).mono _ _ _ e h⟩⟩
def prp (φ : Prop) (R : Res) : Res := ⟨fun F l => φ ∧ R.on F l, fun _ _ _ e h => ⟨h.1, R.mono _ _ _ e h.2⟩⟩
def Sat (F : Hp) : List Res → List Cell → Prop
  | [], l => l = []
  | R :: Rs, l => ∃ l1 l2, l = l1 ++ l2 ∧ R.on F l1 ∧ Sat F Rs l2
theorem Sat.mono {F F' : Hp} (e : Ext F F') : ∀ {Rs : List Res} {l : List Cell}, Sat F Rs l → Sat F' Rs l
  | [], _, h => h
  | R :: _, _, ⟨l1, l2, h, a, b⟩ => ⟨l1, l2, h, R.mono _ _ _ e a, Sat.mono e b⟩
theorem Sat.perm {F : Hp} {Rs Rs' : List Res} (p : Rs.Perm Rs') : ∀ {l : List Cell}, Sat F Rs l → ∃ l', l.Perm l' ∧ Sat F Rs' l' := by
  induction p with
  | nil => exact fun h => ⟨_, .refl _, h⟩
  | cons R _ ih =>
    rintro l ⟨l1, l2, rfl, a, b⟩
    obtain ⟨l3, q, c⟩ := ih b
    exact ⟨l1 ++ l3, .append_left _ q, l1, l3, rfl, a, c⟩
  | swap R S Rs =>
    rintro l ⟨l1, l2, rfl, a, l3, l4, rfl, b, c⟩
    refine ⟨l3 ++ (l1 ++ l4), ?_, l3, l1 ++ l4, rfl, b, l1, l4, rfl, a, c⟩
    rw [← List.append_assoc, ← List.append_assoc]
    exact List.Perm.append_right _ List.perm_append_comm
  | trans _ _ ih1 ih2 =>
    intro l h
    obtain ⟨l1, p1, h1⟩ := ih1 h
    obtain ⟨l2, p2, h2⟩ := ih2 h1
    exact ⟨l2, p1.trans p2, h2⟩
structure MemC (F : Hp) (L : List Cell) (H : Hp) : Prop where
  ex : Ext F H
  own : ∀ c ∈ L, H c.1 = some c.2 ∧ F c.1 = none
  nd : (L.map (·.1)).Nodup
theorem MemC.perm {F : Hp} {L L' : List Cell} {H : Hp} (h : MemC F L H) (p : L.Perm L') : MemC F L' H :=
  ⟨h.ex, fun c hc => h.own c (p.mem_iff.mpr hc), (p.map _).nodup_iff.mp h.nd⟩
/-- THE STATE: the resources hold, apart from one another -/
def M (Rs : List Res) (H : Hp) : Prop := ∃ F L, Sat F Rs L ∧ MemC F L H
section
variable {Rs Rs' : List Res} {R S : Res} {H : Hp} {p : Addr} {o o' : HO}
theorem M.perm (h : M Rs H) (q : Rs.Perm Rs') : M Rs' H := by
  obtain ⟨F, L, a, b⟩ := h
  obtain ⟨L', q', a'⟩ := a.perm q
  exact ⟨F, L', a', b.perm q'⟩
theorem M.nil : M [] H := ⟨fun _ => none, [], rfl, ⟨(fun _ _ h => nomatch h), (fun _ h => nomatch h), List.nodup_nil⟩⟩
theorem M.tl (h : M (R :: Rs) H) : M Rs H := by
  obtain ⟨F, L, ⟨l1, l2, rfl, a, b⟩, m⟩ := h
  refine ⟨F, l2, b, m.ex, fun c hc => m.own c (List.mem_append_right _ hc), ?_⟩
  have := m.nd
  rw [List.map_append] at this
  exact (List.nodup_append.mp this).2.1
theorem perm_at : ∀ {Rs : List Res} (i : Nat) {R : Res}, Rs[i]? = some R → Rs.Perm (R :: Rs.eraseIdx i)
  | [], i, R, h => by simp at h
  | S :: Rs, 0, R, h => by
    have e : S = R := Option.some.inj h
    subst e
    exact .refl _
  | S :: Rs, i + 1, R, h => by
    have ih := perm_at (Rs := Rs) i (R := R) (by simpa using h)
    exact (List.Perm.cons S ih).trans (List.Perm.swap R S _)
/-- the i-th resource comes first -/
theorem M.at (h : M Rs H) (i : Nat) (e : Rs[i]? = some R) : M (R :: Rs.eraseIdx i) H := h.perm (perm_at i e)
theorem M.hd (h : M (pt p o :: Rs) H) : H p = some o := by
  obtain ⟨F, L, ⟨l1, l2, rfl, rfl, b⟩, m⟩ := h
  exact (m.own (p, o) (by simp)).1
theorem M.hdF (h : M (fz p o :: Rs) H) : H p = some o := by
  obtain ⟨F, L, ⟨l1, l2, rfl, ⟨_, e⟩, b⟩, m⟩ := h
  exact m.ex _ _ e
theorem M.hdD {K : PySem.W.Frag} {v : V} {d : PyData} (h : M (dt K v d :: Rs) H) : Dp K H v d := by
  obtain ⟨F, L, ⟨l1, l2, rfl, ⟨_, e⟩, b⟩, m⟩ := h
  exact Dp_ext m.ex e
theorem M.got (h : M Rs H) (i : Nat) (e : Rs[i]? = some (pt p o)) : H p = some o := (h.at i e).hd
theorem M.gotF (h : M Rs H) (i : Nat) (e : Rs[i]? = some (fz p o)) : H p = some o := (h.at i e).hdF
theorem M.gotD {K : PySem.W.Frag} {v : V} {d : PyData} (h : M Rs H) (i : Nat) (e : Rs[i]? = some (dt K v d)) : Dp K H v d := (h.at i e).hdD
/-- a new object -/
theorem M.new (h : M Rs H) (hp : H p = none) : M (pt p o :: Rs) (upd H p o) := by
  obtain ⟨F, L, a, m⟩ := h
  have fp : F p = none := by
    cases q : F p with
    | none => rfl
    | some u => rw [m.ex _ _ q] at hp; cases hp
  refine ⟨F, (p, o) :: L, ⟨[(p, o)], L, rfl, rfl, a⟩, ⟨m.ex.trans (Ext.new hp), fun c hc => ?_, ?_⟩⟩
  · rcases List.mem_cons.mp hc with rfl | hc
    · exact ⟨upd_same, fp⟩
    · have q := m.own c hc
      refine ⟨?_, q.2⟩
      rw [upd_ne (ne_of_none q.1 hp)]
      exact q.1
  · rw [List.map_cons, List.nodup_cons]
    refine ⟨fun hm => ?_, m.nd⟩
    obtain ⟨c, hc, e⟩ := List.mem_map.mp hm
    have q := (m.own c hc).1
    rw [e, hp] at q
    cases q
/-- an owned object is changed -/
theorem M.put (h : M (pt p o :: Rs) H) : M (pt p o' :: Rs) (upd H p o') := by
  obtain ⟨F, L, ⟨l1, l2, rfl, rfl, b⟩, m⟩ := h
  have fp : F p = none := (m.own (p, o) (by simp)).2
  have nd := m.nd
  rw [List.map_append] at nd
  have nd2 : ((p :: l2.map (·.1)) : List Addr).Nodup := nd
  have np := (List.nodup_cons.mp nd2).1
  refine ⟨F, (p, o') :: l2, ⟨[(p, o')], l2, rfl, rfl, b⟩, ⟨fun a u e => ?_, fun c hc => ?_, nd2⟩⟩
  · have : a ≠ p := fun z => by rw [z, fp] at e; cases e
    rw [upd_ne this]
    exact m.ex _ _ e
  · rcases List.mem_cons.mp hc with rfl | hc
    · exact ⟨upd_same, fp⟩
    · have q := m.own c (List.mem_append_right _ hc)
      refine ⟨?_, q.2⟩
      have : c.1 ≠ p := fun z => np (List.mem_map.mpr ⟨c, hc, z⟩)
      rw [upd_ne this]
      exact q.1
/-- an owned object stays as it is from now on -/
theorem M.fix (h : M (pt p o :: Rs) H) : M (fz p o :: Rs) H := by
  obtain ⟨F, L, ⟨l1, l2, rfl, rfl, b⟩, m⟩ := h
  have hp := m.own (p, o) (by simp)
  have nd := m.nd
  rw [List.map_append] at nd
  have nd2 : ((p :: l2.map (·.1)) : List Addr).Nodup := nd
  have np := (List.nodup_cons.mp nd2).1
  have ex : Ext F (upd F p o) := Ext.new hp.2
  refine ⟨upd F p o, l2, ⟨[], l2, rfl, ⟨rfl, upd_same⟩, b.mono ex⟩, ⟨fun a u e => ?_, fun c hc => ?_, (List.nodup_cons.mp nd2).2⟩⟩
  · by_cases z : a = p
    · subst z
      rw [upd_same] at e
      cases e
      exact hp.1
    · rw [upd_ne z] at e
      exact m.ex _ _ e
  · have q := m.own c (List.mem_append_right _ hc)
    refine ⟨q.1, ?_⟩
    have : c.1 ≠ p := fun z => np (List.mem_map.mpr ⟨c, hc, z⟩)
    rw [upd_ne this]
    exact q.2
theorem M.dupF (h : M (fz p o :: Rs) H) : M (fz p o :: fz p o :: Rs) H := by
  obtain ⟨F, L, ⟨l1, l2, rfl, ⟨rfl, e⟩, b⟩, m⟩ := h
  exact ⟨F, l2, ⟨[], l2, rfl, ⟨rfl, e⟩, [], l2, rfl, ⟨rfl, e⟩, b⟩, m⟩
theorem M.dupD {K : PySem.W.Frag} {v : V} {d : PyData} (h : M (dt K v d :: Rs) H) : M (dt K v d :: dt K v d :: Rs) H := by
  obtain ⟨F, L, ⟨l1, l2, rfl, ⟨rfl, e⟩, b⟩, m⟩ := h
  exact ⟨F, l2, ⟨[], l2, rfl, ⟨rfl, e⟩, [], l2, rfl, ⟨rfl, e⟩, b⟩, m⟩
theorem M.sp (h : M (sp2 R S :: Rs) H) : M (R :: S :: Rs) H := by
  obtain ⟨F, L, ⟨l1, l2, rfl, ⟨l3, l4, rfl, a, b⟩, c⟩, m⟩ := h
  exact ⟨F, _, ⟨l3, l4 ++ l2, by rw [List.append_assoc], a, l4, l2, rfl, b, c⟩, m⟩
theorem M.sp' (h : M (R :: S :: Rs) H) : M (sp2 R S :: Rs) H := by
  obtain ⟨F, L, ⟨l1, l2, rfl, a, l3, l4, rfl, b, c⟩, m⟩ := h
  exact ⟨F, _, ⟨l1 ++ l3, l4, by rw [List.append_assoc], ⟨l1, l3, rfl, a, b⟩, c⟩, m⟩
theorem M.ex {α : Type} {T : α → Res} (h : M (exi T :: Rs) H) : ∃ x, M (T x :: Rs) H := by
  obtain ⟨F, L, ⟨l1, l2, rfl, ⟨x, a⟩, c⟩, m⟩ := h
  exact ⟨x, F, _, ⟨l1, l2, rfl, a, c⟩, m⟩
theorem M.ex' {α : Type} {T : α → Res} (x : α) (h : M (T x :: Rs) H) : M (exi T :: Rs) H := by
  obtain ⟨F, L, ⟨l1, l2, rfl, a, c⟩, m⟩ := h
  exact ⟨F, _, ⟨l1, l2, rfl, ⟨x, a⟩, c⟩, m⟩
theorem M.pr {φ : Prop} (h : M (prp φ R :: Rs) H) : φ ∧ M (R :: Rs) H := by
  obtain ⟨F, L, ⟨l1, l2, rfl, ⟨x, a⟩, c⟩, m⟩ := h
  exact ⟨x, F, _, ⟨l1, l2, rfl, a, c⟩, m⟩
theorem M.pr' {φ : Prop} (x : φ) (h : M (R :: Rs) H) : M (prp φ R :: Rs) H := by
  obtain ⟨F, L, ⟨l1, l2, rfl, a, c⟩, m⟩ := h
  exact ⟨F, _, ⟨l1, l2, rfl, ⟨x, a⟩, c⟩, m⟩
/-- the i-th, owned, is changed; the places stay -/
theorem perm_set : ∀ {Rs : List Res} (i : Nat) {R S : Res}, Rs[i]? = some R → (S :: Rs.eraseIdx i).Perm (Rs.set i S)
  | [], i, R, S, h => by simp at h
  | T :: Rs, 0, R, S, h => .refl _
  | T :: Rs, i + 1, R, S, h => by
    have ih := perm_set (Rs := Rs) i (R := R) (S := S) (by simpa using h)
    exact (List.Perm.swap T S _).trans (List.Perm.cons T ih)
theorem M.putAt (h : M Rs H) (i : Nat) (e : Rs[i]? = some (pt p o)) : M (Rs.set i (pt p o')) (upd H p o') := ((h.at i e).put (o' := o')).perm (perm_set i e)
theorem M.fixAt (h : M Rs H) (i : Nat) (e : Rs[i]? = some (pt p o)) : M (Rs.set i (fz p o)) H := (h.at i e).fix.perm (perm_set i e)
theorem M.setAt (h : M Rs H) (i : Nat) (e : Rs[i]? = some R) (k : M (R :: Rs.eraseIdx i) H → M (S :: Rs.eraseIdx i) H) : M (Rs.set i S) H := (k (h.at i e)).perm (perm_set i e)
end
end RC

namespace RC
open PySem PySem.Spec PyProof.Rows L2
/-! ### a def's promise: the names may be bound in any order; g: it wants to know that nothing is being shown (repr) around it -/
structure FnX (g : Bool) (P : Program) (w : World) (K : PySem.W.Frag) (mg : Str → Option Value) (base : Heap) (CX : CXT) (k : Nat) (f : Addr) (fd : FuncData) (ps : List Str) (sp : Sp) : Prop where
  lenG : ∀ vs H Q E, sp vs H Q E → vs.length = ps.length
  runG : ∀ (B : Around) (out : List Env) (t : Shared) (H : Hp) (args : Args) (bs : List (Str × Value)) (us : List Value) (vs : List V) (Q : VK) (E : XK), (g = true → B.guards = some []) → Room k B → Env0 P w K mg base B out t H →
    BindsTo t fd args bs → bs.Perm (ps.zip us) → Vals vs us → sp vs H Q E → codeAny (model P w) B (.call (.ref f) args) (CR CX out P w H t Q E) t
theorem zip_names {α β : Type} : ∀ (as : List α) (bs : List β), (as.zip bs).map (·.1) = as.take bs.length
  | [], _ => by simp
  | _ :: _, [] => rfl
  | a :: as, b :: bs => by
    show a :: (as.zip bs).map (·.1) = a :: as.take bs.length
    rw [zip_names as bs]
theorem bindL_perm {kd : Str → Option NameKind} {l l' : List (Str × Value)} (p : l.Perm l') : (l.map (·.1)).Nodup → ∀ m, bindL kd l m = bindL kd l' m := by
  induction p with
  | nil => exact fun _ _ => rfl
  | cons x _ ih =>
    intro nd m
    obtain ⟨n, v⟩ := x
    have nd2 := (List.nodup_cons.mp nd).2
    unfold bindL
    split <;> exact ih nd2 _
  | swap x y l =>
    intro nd m
    obtain ⟨n, v⟩ := x
    obtain ⟨n', v'⟩ := y
    have ne : n' ≠ n := fun e => (List.nodup_cons.mp nd).1 (by rw [e]; exact List.mem_cons_self)
    show bindL kd ((n', v') :: (n, v) :: l) m = bindL kd ((n, v) :: (n', v') :: l) m
    unfold bindL
    unfold bindL
    by_cases h1 : kd n' = some .local <;> by_cases h2 : kd n = some .local <;> simp only [h1, h2, if_true, if_false]
    all_goals try rfl
    congr 1
    funext z
    by_cases e1 : z = n
    · subst e1
      simp [Ne.symm ne]
    · simp [e1]
  | trans p q ih1 ih2 =>
    intro nd m
    rw [ih1 nd m, ih2 ((p.map _).nodup_iff.mp nd) m]
theorem bindC_perm {kd : Str → Option NameKind} {l l' : List (Str × Value)} (p : l.Perm l') : (l.map (·.1)).Nodup → ∀ m, bindC kd l m = bindC kd l' m := by
  induction p with
  | nil => exact fun _ _ => rfl
  | cons x _ ih =>
    intro nd m
    obtain ⟨n, v⟩ := x
    have nd2 := (List.nodup_cons.mp nd).2
    unfold bindC
    split <;> exact ih nd2 _
  | swap x y l =>
    intro nd m
    obtain ⟨n, v⟩ := x
    obtain ⟨n', v'⟩ := y
    have ne : n' ≠ n := fun e => (List.nodup_cons.mp nd).1 (by rw [e]; exact List.mem_cons_self)
    show bindC kd ((n', v') :: (n, v) :: l) m = bindC kd ((n, v) :: (n', v') :: l) m
    unfold bindC
    unfold bindC
    by_cases h1 : kd n' = some .local <;> by_cases h2 : kd n = some .local <;> simp only [h1, h2, if_true, if_false]
    all_goals try rfl
    congr 1
    funext z
    by_cases e1 : z = n
    · subst e1
      simp [Ne.symm ne]
    · simp [e1]
  | trans p q ih1 ih2 =>
    intro nd m
    rw [ih1 nd m, ih2 ((p.map _).nodup_iff.mp nd) m]
section
variable {g : Bool} {P : Program} {w : World} {K : PySem.W.Frag} {mg : Str → Option Value} {base : Heap} {CX : CXT} {k : Nat} {f : Addr} {fd : FuncData} {ps : List Str} {sp : Sp}
theorem FnX.ok (F : FnX false P w K mg base CX k f fd ps sp) : FnOk P w K mg base CX k f fd ps sp :=
  ⟨F.lenG, fun B out t H args us vs Q E hr e b r h => F.runG B out t H args _ us vs Q E (fun z => nomatch z) hr e b (.refl _) r h⟩
theorem FnX.up {g' : Bool} (F : FnX g P w K mg base CX k f fd ps sp) (h : g = true → g' = true) : FnX g' P w K mg base CX k f fd ps sp :=
  ⟨F.lenG, fun B out t H args bs us vs Q E gu hr e b p r hs => F.runG B out t H args bs us vs Q E (fun z => gu (h z)) hr e b p r hs⟩
theorem FnX.mono {j : Nat} (F : FnX g P w K mg base CX j f fd ps sp) (h : j ≤ k) : FnX g P w K mg base CX k f fd ps sp :=
  ⟨F.lenG, fun B out t H args bs us vs Q E gu hr e b p r hs => F.runG B out t H args bs us vs Q E gu (hr.mono h) e b p r hs⟩
theorem okX {x qual : Str} {params : Arguments} {body : List Stmt} {scope : Scope} {dvs : List V} {kws : List (Str × V)} {N : List Str} (D : FunD K x qual params body scope dvs kws f fd) (S : FnScope N ps scope)
    (hlen : ∀ vs H Q E, sp vs H Q E → vs.length = ps.length)
    (hbody : ∀ (cdv : Value) (B : Around) (out : List Env) (t : Shared) (H : Hp) (vs : List V) (Q : VK) (E : XK), (g = true → B.guards = some []) → Room k (B.deeper (envOfC qual scope t.heap.objs.size f cdv)) → sp vs H Q E →
      ∃ tr, PSs (cxOf CX P w K mg base N qual scope f cdv B out t H E) body tr ∧ tr { nx := fun _ H' => Q .non H', rt := Q } (start N vs) H) :
    FnX g P w K mg base CX (k + 1) f fd ps sp := by
  obtain ⟨⟨oc, od, dV, kV, doc, pm, an, cdv, ct, osl, rfl, lk, hcd, _, _⟩, _⟩ := D
  constructor
  · exact hlen
  intro B out t H args bs us vs Q E hg hr env hb hperm rel hsp
  have hin : K.In t.heap := env.mod.kin.keeps fun b o q => (env.bs b o q).1
  have hno : t.heap.NoLimit := env.mod.nolimit.keeps fun b o q => (env.bs b o q).1
  have hll := hlen _ _ _ _ hsp
  have nd : (bs.map (·.1)).Nodup := by
    refine (hperm.map _).nodup_iff.mpr ?_
    rw [zip_names, List.take_of_length_le (by rw [← rel.length, hll]; exact Nat.le_refl _), ← S.pre]
    exact S.nd.sublist (List.take_sublist _ _)
  have hk : ∀ y ∈ bs, scope.names.lookup y.1 = some .local ∨
      (scope.names.lookup y.1 = some .cell ∧ ((cellsFrom (t.heap.objs.size + 1) scope.names []).lookup y.1).isSome = true) := by
    rintro ⟨n, v⟩ hy
    cases S.par n (List.of_mem_zip (hperm.mem_iff.mp hy)).1 with
    | inl q => exact .inl q
    | inr q => exact .inr ⟨q, PySem.W.cellsFrom_some _ _ _ (.inl q)⟩
  refine codeAny_call_function hr.depth (hin _ _ lk) rfl S.co S.gen rfl
    (PySem.W.codeRec_of hin hcd) (hb _ _ _ _ ?_)
  refine wpAny_newFunctionEnv_cells S.kind hk fun ev hev t1 ic => ?_
  subst hev
  rw [bindL_perm hperm nd, bindC_perm hperm nd] at ic
  refine ⟨hno.keeps ic.toInCall.keep, codeAny_func ?_⟩
  obtain ⟨tr, htr, hq⟩ := hbody cdv B out t H vs Q E hg (hr.deeper _) hsp
  have J : Inv (cxOf CX P w K mg base N qual scope f cdv B out t H E) [] (start N vs) H t1 :=
    inv_start S hr.hd env hll rel ic
  refine wpAny_mono (htr.run [] t1 (start N vs) H _ J hq) (fun fl t2 z => ?_) fun _ _ z => z
  cases fl with
  | next =>
    obtain ⟨s2, H2, J2, q2⟩ := z
    exact ⟨V.non, H2, J2.os, J2.bare, J2.base, J2.hok, rfl, q2⟩
  | ret u =>
    obtain ⟨v2, s2, H2, J2, r2, q2⟩ := z
    exact ⟨v2, H2, J2.os, J2.bare, J2.base, J2.hok, r2, q2⟩
  | brk =>
    obtain ⟨_, _, _, q2⟩ := z
    cases q2
  | cont =>
    obtain ⟨_, _, _, q2⟩ := z
    cases q2
end
section
variable {X : Cx} {g : Bool} {CX : CXT} {k n : Nat} {f : Addr} {fd : FuncData} {ps ps' ks : List Str} {sp : Sp} {ds : List Value} {dvs : List V} {E : XK}
theorem runX_fn {pins : List (Addr × Obj)} {σ : L2.St} {H : Hp} {s : Shared} {Q : VK} {us : List Value} {vs : List V} (F : FnX g X.prog X.w X.K X.mg X.base CX k f fd ps sp) (hg : g = true → X.A.guards = some []) (hr : Room k X.A)
    (hb : Binds X.K fd ps ds) (hd : Vals dvs ds) (hx : Passes CX X E) (I : Inv X pins σ H s) (r : Vals vs us) (h : sp (vs ++ dvs) H Q E) :
    wpAny (model X.prog X.w) X.A (call (.ref f) us) (EP X pins σ Q) X.xe s := by
  have rr : Vals (vs ++ dvs) (us ++ ds) := r.append hd
  have ll : (us ++ ds).length = ps.length := rr.length.symm.trans (F.lenG _ _ _ _ h)
  have go := F.runG X.A X.stack s H ⟨us, []⟩ _ (us ++ ds) (vs ++ dvs) Q E hg hr I.env0 (hb s us I.kIn ll) (.refl _) rr h
  refine wpAny_call (codeAny_mono go fun res s' hq => ?_)
  match res, hq with
  | .error e, hq => exact hx pins σ H s e s' I hq
  | .ok (.ret u), hq => exact I.after hq
  | .ok .next, hq => cases hq
  | .ok .brk, hq => cases hq
  | .ok .cont, hq => cases hq
theorem pe_callX {x : Str} {e : Expr} {es : List Expr} {t : TA} {p pos : Pos} (F : FnX g X.prog X.w X.K X.mg X.base CX k f fd ps sp) (hgu : g = true → X.A.guards = some []) (hr : Room k X.A) (hg : Gl X x) (hm : X.mg x = some (.ref f))
    (hk : PySem.W.keepIn X.K (.ref f) = true) (hb : Binds X.K fd ps ds) (hd : Vals dvs ds) (hx : Passes CX X E)
    (ha : PA X (e :: es) t) (hdb : (x == ("__debug__" : Str)) = false := by decide) (he : starEach (e :: es) X.env = (false, eval e X.env) :: starEach es X.env := by rfl)
    (hpl : (backTo pos (starEach es X.env)).any (·.1) = false := by rfl) : PE X (.Call (.Name x p) (e :: es) [] pos) (tCall sp dvs E t) := by
  constructor
  intro pins s σ H Q I h
  refine wpAny_Call_Name_kw (ld_glob I hg hm ?_ hdb)
  have body := thn (ha.run pos pins s σ H _ I h) (Q' := fun us s1 => X.K.In s1.heap ∧ wpAny (model X.prog X.w) X.A (call (.ref f) us) (EP X pins σ Q) X.xe s1)
    fun us s1 ⟨vs, H1, I1, r1, q1⟩ => ⟨I1.kIn, runX_fn F hgu hr hb hd hx I1 r1 q1⟩
  exact PySem.W.callWith_K (h₀ := X.base) I.ok.mod.kin hk body he hpl
/-- f(e, .., k = v, ..): bound as ps' says, turned by π to the parameters' order -/
theorem runX_kw {pins : List (Addr × Obj)} {σ : L2.St} {H : Hp} {s : Shared} {Q : VK} {us ws : List Value} {vs zs : List V} {gU : List Value → List Value → List Value} {gV : List V → List V → List V} (π : {α : Type} → List α → List α)
    (F : FnX g X.prog X.w X.K X.mg X.base CX k f fd ps sp) (hg : g = true → X.A.guards = some []) (hr : Room k X.A) (hb : KBn X.K fd ps' n ks gU gV) (hx : Passes CX X E)
    (h1 : ∀ vs us, Vals vs us → Vals (π vs) (π us)) (h2 : ∀ us : List Value, us.length = ps'.length → (ps'.zip us).Perm (ps.zip (π us)))
    (I : Inv X pins σ H s) (r : Vals vs us) (rz : Vals zs ws) (l1 : vs.length = n) (l2 : zs.length = ks.length) (l3 : (gV vs zs).length = ps'.length) (h : sp (π (gV vs zs)) H Q E) :
    wpAny (model X.prog X.w) X.A (call (.ref f) us (ks.zip ws)) (EP X pins σ Q) X.xe s := by
  have rr := hb.rel r rz
  have go := F.runG X.A X.stack s H ⟨us, ks.zip ws⟩ _ (π (gU us ws)) (π (gV vs zs)) Q E hg hr I.env0 (hb.to s us ws I.kIn (r.length.symm.trans l1) (rz.length.symm.trans l2)) (h2 _ (rr.length.symm.trans l3)) (h1 _ _ rr) h
  refine wpAny_call (codeAny_mono go fun res s' hq => ?_)
  match res, hq with
  | .error e, hq => exact hx pins σ H s e s' I hq
  | .ok (.ret u), hq => exact I.after hq
  | .ok .next, hq => cases hq
  | .ok .brk, hq => cases hq
  | .ok .cont, hq => cases hq
def tCallP (n m l : Nat) (π : {α : Type} → List α → List α) (sp : Sp) (gV : List V → List V → List V) (E : XK) (t tk : TA) : TE := fun σ H Q => t σ H fun vs H1 => tk σ H1 fun zs H2 => vs.length = n ∧ zs.length = m ∧ (gV vs zs).length = l ∧ sp (π (gV vs zs)) H2 Q E
theorem pe_callP {x : Str} {e : Expr} {es : List Expr} {kws : List Keyword} {t tk : TA} {p pos : Pos} {gU : List Value → List Value → List Value} {gV : List V → List V → List V} (π : {α : Type} → List α → List α)
    (F : FnX g X.prog X.w X.K X.mg X.base CX k f fd ps sp) (hgu : g = true → X.A.guards = some []) (hr : Room k X.A) (hg : Gl X x) (hm : X.mg x = some (.ref f))
    (hk : PySem.W.keepIn X.K (.ref f) = true) (hb : KBn X.K fd ps' n ks gU gV) (hx : Passes CX X E) (h1 : ∀ vs us, Vals vs us → Vals (π vs) (π us)) (h2 : ∀ us : List Value, us.length = ps'.length → (ps'.zip us).Perm (ps.zip (π us)))
    (ha : PA X (e :: es) t) (hkw : PK X kws tk) (hall : (backToKw pos (keywordEach kws X.env)).all (·.1.isSome) = true := by rfl) (hks : (backToKw pos (keywordEach kws X.env)).filterMap (·.1) = ks := by rfl)
    (hdb : (x == ("__debug__" : Str)) = false := by decide) (he : starEach (e :: es) X.env = (false, eval e X.env) :: starEach es X.env := by rfl)
    (hpl : ((backTo pos (starEach (e :: es) X.env)).any (·.1) || (backToKw pos (keywordEach kws X.env)).any (·.1.isNone)) = false := by rfl) :
    PE X (.Call (.Name x p) (e :: es) kws pos) (tCallP n ks.length ps'.length π sp gV E t tk) := by
  constructor
  intro pins s σ H Q I h
  refine wpAny_Call_Name_kw (ld_glob I hg hm ?_ hdb)
  refine PySem.W.callWith_KW (h₀ := X.base) I.ok.mod.kin hk hall
    (thn (ha.run pos pins s σ H _ I h) ?_) hpl he
  rintro us s1 ⟨vs, H1, I1, r1, q1⟩
  refine thn (hkw.run pos pins s1 σ H1 _ I1 q1) ?_
  rintro ws s2 ⟨zs, H2, I2, r2, l1, l2, l3, q2⟩
  refine ⟨I2.kIn, ?_⟩
  subst hks
  exact runX_kw π F hgu hr hb hx h1 h2 I2 r1 r2 l1 l2 l3 q2
end
/-- some places of a list -/
def pickL {α : Type} (is : List Nat) (l : List α) : List α := is.filterMap fun i => l[i]?
theorem pickL_vals {vs : List V} {us : List Value} (r : Vals vs us) : ∀ is : List Nat, Vals (pickL is vs) (pickL is us)
  | [] => .nil
  | i :: is => by
    unfold pickL
    cases e : vs[i]? with
    | none =>
      rw [List.filterMap_cons, List.filterMap_cons, e, r.none_of e]
      exact pickL_vals r is
    | some v =>
      obtain ⟨u, hu, ru⟩ := r.get e
      rw [List.filterMap_cons, List.filterMap_cons, e, hu]
      exact .cons ru (pickL_vals r is)
theorem permAt {α : Type} : ∀ {l : List α} (i : Nat) {x : α}, l[i]? = some x → l.Perm (x :: l.eraseIdx i)
  | [], i, x, h => by simp at h
  | y :: l, 0, x, h => by
    have e : y = x := Option.some.inj h
    subst e
    exact .refl _
  | y :: l, i + 1, x, h => (List.Perm.cons y (permAt (l := l) i (x := x) (by simpa using h))).trans (List.Perm.swap x y _)
/-! ### the law's end for such a def -/
theorem law_callN {ND : Heap → Prop} {P : Program} {w : World} {K : PySem.W.Frag} {mg mb : Str → Option Value} {CX : CXT} {k : Nat} {fa a : Addr} {fd : FuncData} {x : Str} {sp : Sp} {s1 : Shared} {vs : List Value} {ns : List Int}
    (KX : K.In s1.heap) (hns : s1.heap.Ns mainGlobals mg) (hb : s1.heap.Ns builtinsNs mb) (hbb : ∀ x : Str, x ≠ "__name__" → mb x = bootBuiltins x) (hlim : s1.heap.NoLimit) (hdig : ∀ h' : Heap, (∀ b o es ep, s1.heap.get? b = some o → o.data = .dict es ep → h'.get? b = some o) → ND h') (hg : s1.gens = #[])
    (ha : s1.heap.get? a = some { cls := .type "list", data := .seq vs.toArray }) (hi : IntsAre vs ns) (hl : ns.length ≤ sizeLine) (hr : Room k callerA)
    (F : ∀ base : Heap, K.In base → base.Ns mainGlobals mg → ND base → FnX true P w K mg base CX k fa fd [x] sp)
    (hbind : ∀ (s : Shared) (u : Value), BindsTo s fd ⟨[u], []⟩ [(x, u)])
    (hsp : ∀ H : Hp, SqL K H a (ns.map V.int) → sp [.ref a] H (fun v _ => v = .bl true) fun _ _ _ => False)
    (hCX : ∀ H e s', CX [] H s1 (fun _ _ _ => False) e s' → False) :
    codeAny (model P w) callerA (.call (.ref fa) ⟨[.ref a], []⟩) (fun r s' => r = .ok (.ret (.bool true)) ∧ OldK s1.heap s'.heap ∧ s'.os = s1.os ∧ AllBare s'.gens) s1 := by
  have rv := vals_ints hi
  -- the abstract heap: the script alone, locked, unless it is one of the module's own objects
  obtain ⟨H, hS, hok, hA, hK, hO⟩ : ∃ H : Hp, SqL K H a (ns.map V.int) ∧ HOk P w H s1.heap ∧ (∀ b, H b ≠ none → b = a) ∧ (H a ≠ none → K.lookup a = none) ∧
      ∀ b u, H b = some u → ∃ o v, u = .frz o v := by
    cases hk : K.lookup a with
    | some o =>
      have e := KX a o hk
      rw [ha] at e
      cases e
      refine ⟨fun _ => none, .inr ⟨_, vs.toArray, _, hk, rfl, rfl, rfl, ?_, by simpa using rv⟩, ?_, ?_, ?_, ?_⟩
      · rw [List.size_toArray, hi.length]
        exact hl
      · intro b u z
        cases (show (none : Option HO) = some u from z)
      · intro b z
        exact absurd rfl z
      · intro z
        exact absurd rfl z
      · intro b u z
        cases (show (none : Option HO) = some u from z)
    | none =>
      have at1 : upd (fun _ => none) a (.frz { cls := .type "list", data := .seq vs.toArray } (.lst (ns.map V.int))) a = some (HO.frz { cls := .type "list", data := .seq vs.toArray } (.lst (ns.map V.int))) := upd_same
      have at2 : ∀ b u, upd (fun _ => none) a (.frz { cls := .type "list", data := .seq vs.toArray } (.lst (ns.map V.int))) b = some u → b = a ∧ u = HO.frz { cls := .type "list", data := .seq vs.toArray } (.lst (ns.map V.int)) := by
        intro b u z
        by_cases q : b = a
        · subst q
          rw [upd_same] at z
          exact ⟨rfl, (Option.some.inj z).symm⟩
        · rw [upd_ne q] at z
          cases z
      refine ⟨_, .inl (.inr ⟨_, at1⟩), ?_, ?_, fun _ => rfl, ?_⟩
      · intro b u z
        obtain ⟨rfl, rfl⟩ := at2 b u z
        refine ⟨ha, ?_, vs, _, rv, ha⟩
        rw [List.length_map]
        exact hl
      · intro b z
        cases q : upd (fun _ => none) a (.frz { cls := .type "list", data := .seq vs.toArray } (.lst (ns.map V.int))) b with
        | none => exact absurd q z
        | some u => exact (at2 b u q).1
      · intro b u z
        exact ⟨_, _, (at2 b u z).2⟩
  have off : ∀ {b : Addr} {o : Obj} {es : Array DictEntry} {ep : Nat}, s1.heap.get? b = some o → o.data = .dict es ep → H b = none := by
    intro b o es ep e d
    cases q : H b with
    | none => rfl
    | some u =>
      have z : b = a := hA b (by rw [q]; simp)
      subst z
      rw [ha] at e
      cases e
      cases (show Data.seq vs.toArray _ = Data.dict es ep from d)
  have nsH : ∀ {b : Addr} {m : Str → Option Value}, s1.heap.Ns b m → (hidT s1.heap H).Ns b m := by
    rintro b m ⟨o, es, ep, e, d, r⟩
    exact ⟨o, es, ep, hidT_get e (off e d), d, r⟩
  have hKb : K.In (hidT s1.heap H) := by
    intro b o e
    refine hidT_get (KX b o e) ?_
    cases q : H b with
    | none => rfl
    | some u =>
      have z : b = a := hA b (by rw [q]; simp)
      subst z
      rw [hK (by rw [q]; simp)] at e
      cases e
  have hM : Mod K mg (hidT s1.heap H) := by
    obtain ⟨mc, h1, h2⟩ := hlim
    exact ⟨hKb, nsH hns, ⟨mb, nsH hb, hbb⟩, ⟨mc, nsH h1, h2⟩⟩
  have e0 : Env0 P w K mg (hidT s1.heap H) callerA [] s1 H := by
    refine ⟨rfl, hM, fun b o e => of_hidT e, Nat.le_of_eq (hidT_size _ _), trivial, fun b hb => ?_, hok, .of_eq hg⟩
    cases (show b ∈ ([] : List Addr) from hb)
  have go := (F _ hKb (nsH hns) (hdig _ fun b o es ep e d => hidT_get e (off e d))).runG callerA [] s1 H ⟨[.ref a], []⟩ _ [.ref a] [.ref a] _ _ (fun _ => rfl) hr e0 (hbind s1 (.ref a)) (.refl _) (.cons rfl .nil) (hsp H hS)
  refine codeAny_mono go fun res s' h => ?_
  match res, h with
  | .error e, h => exact (hCX H e s' h).elim
  | .ok .next, h => cases h
  | .ok .brk, h => cases h
  | .ok .cont, h => cases h
  | .ok (.ret u), h =>
    obtain ⟨v, H', os, bare, un, hok', r', q⟩ := h
    cases (show v = .bl true from q)
    cases (show u = Value.bool true from r')
    refine ⟨rfl, OldK.of_keep fun b o e => ?_, os, bare⟩
    cases q : H b with
    | none =>
      refine un.keep b o e q (fun z => ?_) (by simp)
      cases (show b ∈ ([] : List Addr) from z)
    | some u =>
      obtain ⟨ob, v2, rfl⟩ := hO b u q
      have z2 := un.frzs b ob _ q
      obtain ⟨e1, _⟩ := hok b _ q
      obtain ⟨e2, _⟩ := hok' b _ z2
      rw [e] at e1
      cases e1
      exact e2
theorem nd_keep {h h' : Heap} (x : h.NoDigits) (k : ∀ b o es ep, h.get? b = some o → o.data = .dict es ep → h'.get? b = some o) : h'.NoDigits := by
  obtain ⟨mc, ⟨o, es, ep, e, d, r⟩, q⟩ := x
  exact ⟨mc, ⟨o, es, ep, k _ _ _ _ e d, d, r⟩, q⟩
theorem walk_G {l : PySem.W.OpenLaw} {n k : Nat} {q : Program} {loose : List Str} {XP : (Str → Option Value) → Heap → Prop} {YP : World → Heap → Prop} {d : DefRec} {CX : World → CXT} {x : Str}
    (hn : l.most = some n) (hn2 : n ≤ sizeLine) (hdf : d.params.defaults = []) (hr : Room k callerA)
    (F : ∀ (w : World) (mg : Str → Option Value) (fa : Addr) (h : Heap), YP w h → h.Ns mainGlobals mg → mg d.name = some (.ref fa) →
      ∃ (K : PySem.W.Frag) (fd : FuncData) (sp : Sp), K.In h ∧ (∀ (s : Shared) (u : Value), BindsTo s fd ⟨[u], []⟩ [(x, u)]) ∧
        (∀ (H : Hp) (a : Addr) (ns : List Int), ns.length ≤ n → SqL K H a (ns.map V.int) → sp [.ref a] H (fun v _ => v = .bl true) fun _ _ _ => False) ∧
        ∀ base : Heap, K.In base → base.Ns mainGlobals mg → base.NoDigits → FnX true l.prog w K mg base (CX w) k fa fd [x] sp)
    (hCX : ∀ (w : World) (H : Hp) (s : Shared) (e : Value) (s' : Shared), CX w [] H s (fun _ _ _ => False) e s' → False) :
    PySem.W.WalkO q loose XP YP l.row.toRowW d [] (fun f vs => PySem.call f vs) := by
  refine Att.attach_call hn hdf ?_
  intro w s0 s1 mg mb fa o pm cd doc a vs ns G Y ho hd hcd hmg hobj hints hlen hgen
  obtain ⟨K, fd, sp, KX, hb, hsp, hF⟩ := F w mg fa _ Y G.T.g hmg
  exact law_callN KX G.T.g G.T.b G.T.builtins G.T.nolimit (fun h' k => nd_keep G.T.nodigits k) hgen hobj hints
    (Nat.le_trans hlen hn2) hr hF hb (fun H hS => hsp H a ns hlen hS) (fun H e s' => hCX w H s1 e s')
end RC

namespace RC
open PySem PySem.Spec PySem.Calls PySem.NumText PyProof.Rows L2
theorem wp_maxDigits {M : Model} {A : Around} {E : Value → Shared → Prop} {s : Shared} {Q : Nat → Shared → Prop} (hn : s.heap.NoDigits) (h : Q 4300 s) : wpAny M A Builtin.intMaxStrDigits Q E s := by
  obtain ⟨mc, hns, hnone⟩ := hn
  unfold Builtin.intMaxStrDigits
  refine wpAny_bind (wpAny_nsGet hns ?_)
  rw [hnone]
  exact wpAny_pure h
theorem wp_textL {M : Model} {A : Around} {E : Value → Shared → Prop} {s : Shared} {Q : Value → Shared → Prop} {v : Value} {text : List Nat} {n : Int} (hd : s.heap.NoDigits)
    (hs : ¬ (text.takeWhile (· != 0)).length ≤ 640) (hr : (int_private% "readNumeral") 4300 10 (text.takeWhile (· != 0)) = (int_private% "Numeral.value") n)
    (ha : ((text.takeWhile (· != 0)).length == text.length) = true) (h : Q (.int n s.toks) { s with toks := s.toks + 1 }) :
    wpAny M A ((int_private% "intFromText") v text 10) Q E s := by
  obtain ⟨hp, g, d, tk, os⟩ := s
  repeat (any_goals (first
    | assumption
    | (with_reducible refine wpAny_ite_false (decide_eq_false hs) ?_)
    | (with_reducible refine wpAny_ite_true (decide_eq_true ha) ?_)
    | (with_reducible refine wp_maxDigits hd ?_)
    | wp_step))
  all_goals (try rw [hr])
  all_goals (try dsimp only)
  repeat (any_goals (first
    | assumption
    | (with_reducible refine wpAny_ite_true (decide_eq_true ha) ?_)
    | wp_step))
structure HidL (p : Prop) : Prop where
  out : p
theorem meets_textL {x : PySem.Str} {u : Tok} {n : Int} (hl : ¬ (numSeenOf x).length ≤ 640) (hz : x.length ≤ sizeLine) (hn : PySem.intText? x = some n) :
    Meets (Builtin.«int.__new__» ⟨[.type "int", .str x u], []⟩) (fun _ R s => s.heap.NoDigits ∧ R (.ok (.ret (.int n s.toks))) { s with toks := s.toks + 1 }) := by
  intro prog w A R s h
  obtain ⟨hd, h⟩ := h
  refine wpAny_mono (Q := fun fin s' => ∃ v, fin = .done (.ret v) ∧ R (.ok (.ret v)) s') ?_ (fun fin s' h' => by obtain ⟨v, rfl, hv⟩ := h'; exact hv) fun _ _ x => x
  obtain ⟨hp, g, d, tk, os⟩ := s
  have f1 := F.conv_sub_int
  have f2 := F.madeHere_int
  have f3 := PySem.W.KIN.str_int
  have f4 := PySem.W.KIN.str_idx
  have f5 := PySem.W.KIN.str_trunc
  have f6 : typeOf (.str x u) = pure (.type "str") := rfl
  have hr : (int_private% "readNumeral") 4300 10 (numSeenOf x) = (int_private% "Numeral.value") n ∧ ((numSeenOf x).length == (numTextOf x).length) = true := by
    rcases read4300 x hz with ⟨m, h1, h2, h3⟩ | ⟨h1, _⟩
    · rw [hn] at h1
      injection h1 with h1
      subst h1
      exact ⟨h3, h2⟩
    · rw [hn] at h1
      cases h1
  have hk := HidL.mk (And.intro hl hr)
  have hh := HidL.mk hd
  clear hl hr hn hz hd
  repeat (any_goals (first
    | assumption
    | ((with_reducible show wpAny _ _ ((int_private% "intFromText") _ _ _) _ _ _); refine wp_textL hh.out hk.out.1 hk.out.2.1 hk.out.2.2 ?_)
    | wp_step))
  all_goals first | exact ⟨_, rfl, h⟩ | skip
/-- int(text), of plain signs -/
def rIntT : List V → Hp → VK → Prop := fun xs H Q => ∃ a n, xs = [.str a] ∧ PySem.intText? a = some n ∧ a.cps.all (· < 128) = true ∧ a.length ≤ sizeLine ∧ Q (.int n) H
theorem cr_intT {X : Cx} (nd : X.base.NoDigits) : CallR X (.type "int") rIntT := by
  intro pins s σ H xs us Q I rs h
  obtain ⟨a, n, rfl, hn, ha, hz, h⟩ := h
  cases rs with
  | cons r1 rs =>
    cases rs
    obtain ⟨t, rfl⟩ := r1
    by_cases hl : a.length ≤ 640
    · exact PySem.W.KIN.call_text hn hl ⟨.int n, H, I.tok _, ⟨_, rfl⟩, h⟩
    · have e : numTextOf a = a.cps.toList := if_pos ha
      have hs : ¬ (numSeenOf a).length ≤ 640 := by
        rcases read4300 a hz with ⟨m, h1, h2, h3⟩ | ⟨h1, _⟩
        · have z := eq_of_beq h2
          rw [z, e, Array.length_toList]
          exact hl
        · rw [hn] at h1
          cases h1
      exact call_int_1 (meets_textL hs hz hn) ⟨nd.keeps fun b o q => (I.env0.bs b o q).1, rfl, ⟨.int n, H, I.tok _, ⟨_, rfl⟩, h⟩⟩
/-- a text of one sign, times a number -/
def rRepS : R2 := fun x y H Q => ∃ (c : Nat) (n : Int), x = .str (SX.S [c]) ∧ y = .int n ∧ 1 ≤ n ∧ n ≤ 100000 ∧ Q (.str (SX.S (List.replicate n.toNat c))) H
theorem rep_one (c : Nat) : ∀ (k : Nat) (acc : Array Nat), (List.replicate k #[c]).foldl (· ++ ·) acc = acc ++ (List.replicate k c).toArray
  | 0, acc => by simp
  | k + 1, acc => by
    rw [List.replicate_succ, List.foldl_cons, rep_one c k, List.replicate_succ]
    refine Array.toList_inj.mp ?_
    simp only [Array.toList_append, List.toList_toArray, List.append_assoc]
    rfl
theorem op_repS {X : Cx} : OpR X (binaryOp .Mult) rRepS := by
  intro pins s σ H x y v u Q I rx ry h
  obtain ⟨c, n, rfl, rfl, h1, h2, q⟩ := h
  obtain ⟨t, rfl⟩ := rx
  obtain ⟨t2, rfl⟩ := ry
  have hl : (SX.S [c]).length = 1 := SX.S_len [c]
  refine PySem.P.mul_str (by rw [decide_eq_false (by omega), decide_eq_false (by omega)]; rfl) (fun _ _ => ?_) (fun _ _ => ?_) ?_
  · rw [hl]
    have : (1 : Int) ≤ (2 ^ 63 - 1) / n := (Int.le_ediv_iff_mul_le (by omega)).mpr (by omega)
    omega
  · rw [hl]
    unfold Builtin.Str.tooLong
    rw [decide_eq_false]
    have := sizeLine_eq
    omega
  · rw [if_neg (by omega)]
    by_cases e : n = 1
    · subst e
      rw [if_pos (by rfl)]
      exact ⟨.str _, H, I, ⟨_, rfl⟩, q⟩
    · rw [if_neg (by rw [hl]; simp [e])]
      have e2 : (⟨(List.replicate n.toNat (SX.S [c]).cps).foldl (· ++ ·) #[]⟩ : Str) = SX.S (List.replicate n.toNat c) := by
        show (⟨(List.replicate n.toNat #[c]).foldl (· ++ ·) #[]⟩ : Str) = _
        rw [rep_one]
        simp
      rw [e2]
      refine ⟨?_, ⟨.str _, H, I.tok _, ⟨_, rfl⟩, q⟩⟩
      rw [SX.S_len, List.length_replicate]
      have := sizeLine_eq
      omega
end RC

namespace RC
open PySem PySem.Spec PyProof.Rows L2
/-! ### rules for any kinds of operands -/
section
variable {X : Cx}
/-- two lists, each of any standing -/
def rCatS (K : PySem.W.Frag) : R2 := fun x y H Q => ∃ l b xs zs, x = .ref l ∧ y = .ref b ∧ SqL K H l xs ∧ SqL K H b zs ∧ xs.length + zs.length ≤ sizeLine ∧ ∀ p, H p = none → Q (.ref p) (upd H p (.lst (xs ++ zs)))
theorem op_catS : OpR X (binaryOp .Add) (rCatS X.K) := by
  intro pins s σ H x y v u Q I rx ry h
  obtain ⟨l, b, xs, zs, rfl, rfl, hH, hB, hz, q⟩ := h
  cases rx
  cases ry
  obtain ⟨its, r, ⟨⟨cls, dd, data, sl⟩, n, ho, hc, _, hd⟩, _⟩ := I.list hH
  obtain ⟨its2, r2, ⟨⟨cls2, dd2, data2, sl2⟩, n2, ho2, hc2, _, hd2⟩, _⟩ := I.list hB
  simp only at hc hd hc2 hd2
  subst hc hd hc2 hd2
  have ea : its.toArray ++ its2.toArray = (its ++ its2).toArray := by simp
  have l1 := r.length
  have l2 := r2.length
  refine concat_meets ⟨_, ho, rfl⟩ ⟨_, ho2, rfl⟩ noFill_list_add seq_list_add PySem.F.slot_list_add PySem.F.entry_list_add (PySem.F.args_list_add_2 _ _) (list_addW l b its.toArray its2.toArray n n2 dd dd2 sl sl2 (by rw [List.size_toArray, List.size_toArray]; omega)) ⟨ho, ho2, ?_⟩
  rw [ea]
  exact ⟨.ref _, _, I.lnew (t' := s.toks) (r.append r2) (by rw [List.length_append]; omega), rfl, q _ I.fresh⟩
def uAdd (K : PySem.W.Frag) : R2 := fun x y H Q => rI0 (fun i j => .int (i + j)) x y H Q ∨ (∃ i j, x = .str i ∧ y = .str j ∧ i.length + j.length ≤ sizeLine ∧ Q (.str (i ++ j)) H) ∨ rCatS K x y H Q ∨ rCatT K x y H Q
theorem uo_add : OpR X (binaryOp .Add) (uAdd X.K) := op_add.or (op_add_str.or (op_catS.or op_catT))
def uSub : R2 := rI0 fun i j => .int (i - j)
theorem uo_sub : OpR X (binaryOp .Sub) uSub := op_sub
def uMul : R2 := fun x y H Q => rI CMul (fun i j => .int (i * j)) x y H Q ∨ rI CMulW (fun i j => .int (i * j)) x y H Q ∨ rRep x y H Q ∨ rRepS x y H Q
theorem uo_mul : OpR X (binaryOp .Mult) uMul := op_mul.or (op_mulW.or (op_rep.or op_repS))
def uMod : R2 := rI (fun _ j => 0 < j) fun i j => .int (i % j)
theorem uo_mod : OpR X (binaryOp .Mod) uMod := op_mod
def uDiv : R2 := rI CDivW fun i j => .int (i / j)
theorem uo_div : OpR X (binaryOp .FloorDiv) uDiv := op_fdivW
def uPow : R2 := rI CPow fun i j => .int (i ^ j.toNat)
theorem uo_pow : OpR X (binaryOp .Pow) uPow := op_pow
/-- op= -/
def iAdd : R2 := fun x y H Q => rI0 (fun i j => .int (i + j)) x y H Q ∨ rExt2 x y H Q
theorem io_add : OpR X (inplaceOp .Add) iAdd := iop_add.or iop_ext
def iSub : R2 := rI0 fun i j => .int (i - j)
theorem io_sub : OpR X (inplaceOp .Sub) iSub := iop_sub
def iMul : R2 := rI CMul fun i j => .int (i * j)
theorem io_mul : OpR X (inplaceOp .Mult) iMul := iop_mul
def iDiv : R2 := rI CDiv fun i j => .int (i / j)
theorem io_div : OpR X (inplaceOp .FloorDiv) iDiv := iop_fdiv
/-- == and != of scalars, of data -/
def uEq (K : PySem.W.Frag) : R2 := fun x y H Q => rEq x y H Q ∨ rEqD K x y H Q
theorem uo_eq (hu : X.A.units + 64 < cLine) : OpR X (compareOp .Eq) (uEq X.K) := op_eq.or (op_eqD hu)
def uNe (K : PySem.W.Frag) : R2 := fun x y H Q => rNe x y H Q ∨ rNeD K x y H Q
theorem uo_ne (hu : X.A.units + 64 < cLine) : OpR X (compareOp .NotEq) (uNe X.K) := op_ne.or (op_neD hu)
def uLt : R2 := rI0 fun i j => .bl (decide (i < j))
def uLe : R2 := rI0 fun i j => .bl (decide (i ≤ j))
def uGt : R2 := rI0 fun i j => .bl (decide (j < i))
def uGe : R2 := rI0 fun i j => .bl (decide (j ≤ i))
theorem uo_lt : OpR X (compareOp .Lt) uLt := op_lt
theorem uo_le : OpR X (compareOp .LtE) uLe := op_le
theorem uo_gt : OpR X (compareOp .Gt) uGt := op_gt
theorem uo_ge : OpR X (compareOp .GtE) uGe := op_ge
/-- o[i] by values, o[i] = v by values: lists, dicts -/
def gIx (K : PySem.W.Frag) : V → V → Hp → VK → Prop := fun o i H Q => (∃ (p : Addr) (xs : List V) (n : Int) (v : V), o = .ref p ∧ i = .int n ∧ SqL K H p xs ∧ 0 ≤ n ∧ xs[n.toNat]? = some v ∧ Q v H) ∨ ∃ p v, o = .ref p ∧ DGet H p i (some v) ∧ Q v H
theorem get_any (hu : X.A.units + 1 < cLine) : PGet X (gIx X.K) := by
  intro pins s σ H o i ov iv Q I r1 r2 h
  rcases h with ⟨p, xs, n, v, rfl, rfl, hs, h0, hx, q⟩ | ⟨p, v, rfl, hd, q⟩
  · cases (show ov = Value.ref p from r1)
    obtain ⟨tk, rfl⟩ := r2
    obtain ⟨its, rv, pl, hz⟩ := I.list hs
    obtain ⟨u, hu, ru⟩ := rv.get hx
    have hlt : n.toNat < xs.length := (List.getElem?_eq_some_iff.mp hx).1
    have hle : n < 2 ^ 63 := by
      have := line63
      omega
    exact wpAny_getItem_list pl.isList h0 hle (by simpa using hu) ⟨v, H, I, ru, q⟩
  · cases (show ov = Value.ref p from r1)
    exact d_getItem hu I hd r2 fun w' s' I' rw' => ⟨v, H, I', rw', q⟩
def uSet : V → V → V → Hp → (Hp → Prop) → Prop := fun o i v H Q => rSetL o i v H Q ∨ ∃ p H', o = .ref p ∧ DPut H p i v H' ∧ Q H'
theorem set_any (hu : X.A.units + 1 < cLine) : PSet X uSet := by
  intro pins s σ H o i v ov iv u Q I r1 r2 r3 h
  rcases h with h | ⟨p, H', rfl, hd, q⟩
  · exact set_list pins s σ H o i v ov iv u Q I r1 r2 r3 h
  · cases (show ov = Value.ref p from r1)
    exact d_setItem hu I hd r2 r3 fun s' I' => ⟨H', I', q⟩
theorem ip_of {op : Operator} {r : R2} (h : OpR X (inplaceOp op) r) : PIp X op r := fun pins s σ H x y v u Q I a b q => h pins s σ H x y v u Q I a b q
/-- repr of data -/
def rRepr (K : PySem.W.Frag) : List V → Hp → VK → Prop := fun xs H Q => ∃ v d, xs = [v] ∧ Dp K H v d ∧ d.showable = true ∧ d.canLay0 = true ∧ d.depth ≤ 60 ∧ d.shown.length ≤ sizeLine ∧ Q (.str d.shown) H
theorem cr_repr (hg : X.A.guards = some []) (hu : X.A.units + 64 < cLine) : CallR X (.builtin "repr") (rRepr X.K) := by
  intro pins s σ H xs us Q I r h
  obtain ⟨v, d, rfl, hd, hs, hc, hp, hz, q⟩ := h
  obtain ⟨u, rfl, ru⟩ := vals1 r
  obtain ⟨as, rd⟩ := Dp.reads I d v u hd ru
  cases hd with
  | non =>
    cases (show u = Value.none from ru)
    refine PySem.P.repr_of_none ⟨.str _, H, I.tok _, ⟨_, rfl⟩, ?_⟩
    simpa only [PyData.shown] using q
  | bl b =>
    cases (show u = Value.bool b from ru)
    refine PySem.P.repr_of_bool ⟨.str _, H, I.tok _, ⟨_, rfl⟩, ?_⟩
    simpa only [PyData.shown] using q
  | int i =>
    obtain ⟨t, rfl⟩ := ru
    refine PySem.P.repr_of_int (by simpa [PyData.showable] using hs) ⟨.str _, H, I.tok _, ⟨_, rfl⟩, ?_⟩
    simpa only [PyData.shown] using q
  | str x =>
    obtain ⟨t, rfl⟩ := ru
    refine PySem.P.repr_of_str ⟨.str _, H, I.tok _, ⟨_, rfl⟩, ?_⟩ (by simpa only [PyData.shown] using hz)
    simpa only [PyData.shown] using q
  | lst h1 h2 =>
    rename_i a ys ds
    cases (show u = Value.ref a from ru)
    exact repr_of_reads' rd hs (PyData.noDict_hsm (PyData.hasDict_of_canLay _ hc)) hg (by omega) (fun _ _ e => e) (fun h' u tk k => ⟨.str _, H, I.kept k, ⟨_, rfl⟩, q⟩) hz
  | tup h1 h2 =>
    rename_i a ys ds
    cases (show u = Value.ref a from ru)
    exact repr_of_reads' rd hs (PyData.noDict_hsm (PyData.hasDict_of_canLay _ hc)) hg (by omega) (fun _ _ e => e) (fun h' u tk k => ⟨.str _, H, I.kept k, ⟨_, rfl⟩, q⟩) hz
/-- len -/
def uLen (K : PySem.W.Frag) : List V → Hp → VK → Prop := fun xs H Q => (∃ x n, xs = [x] ∧ LenV K x H n ∧ Q (.int n) H) ∨ ∃ d kvs, xs = [.ref d] ∧ H d = some (.dK kvs) ∧ Q (.int (kvs.length : Nat)) H
theorem cr_len : CallR X (.builtin "len") (uLen X.K) := call_len.or call_lenD
/-- a constant of the module -/
theorem pe_globI {x : Str} {i : Int} {pos : Pos} (hg : Gl X x) (hm : ∃ t, X.mg x = some (.int i t)) (hd : (x == ("__debug__" : Str)) = false := by decide) : PE X (.Name x pos) (tC (.int i)) := by
  obtain ⟨t, hm⟩ := hm
  exact pe_glob hg hm ⟨t, rfl⟩ hd
theorem pe_globS {x z : Str} {pos : Pos} (hg : Gl X x) (hm : ∃ t, X.mg x = some (.str z t)) (hd : (x == ("__debug__" : Str)) = false := by decide) : PE X (.Name x pos) (tC (.str z)) := by
  obtain ⟨t, hm⟩ := hm
  exact pe_glob hg hm ⟨t, rfl⟩ hd
/-- o[i] -/
def uIx (K : PySem.W.Frag) : R2 := rIx K
theorem ix_any : IxR X (uIx X.K) := ix_seq
/-- slices of lists, tuples, texts -/
def uSl (K : PySem.W.Frag) : V → Option Int → Option Int → Hp → VK → Prop := fun x lo hi H Q => rSlL K x lo hi H Q ∨ rSlT K x lo hi H Q
theorem sl_any : SlR X (uSl X.K) := sl_list.or sl_tup
end
/-! ### readings, step by step -/
section
variable {K : PySem.W.Frag} {σ : L2.St} {H : Hp} {Q : VK} {D : Ends} {t u : TS} {te ta tb tc : TE} {tt : TT} {Rs : List Res} {E : XK}
theorem g_seq (k : t { D with nx := u D } σ H) : tSeq t u D σ H := k
theorem g_next (k : D.nx σ H) : tNext D σ H := k
theorem g_asg {i : Nat} (k : te σ H fun x H1 => D.nx (σ.set i (some x)) H1) : tAsg te (gName i) D σ H := k
theorem g_asgX {g : TG} (k : te σ H fun x H1 => g x σ H1 D.nx) : tAsg te g D σ H := k
theorem g_drop (k : te σ H fun _ H1 => D.nx σ H1) : tDrop te D σ H := k
theorem g_ret (k : te σ H D.rt) : tRet te D σ H := k
theorem g_retN (k : D.rt .non H) : tRetN D σ H := k
theorem g_if (k : tt σ H fun b H1 => if b = true then t D σ H1 else u D σ H1) : tIfS tt t u D σ H := k
theorem g_nx {f r b c} (k : f σ H) : (Ends.mk f r b c).nx σ H := k
theorem g_rt {f b c} {r : VK} {v : V} (k : r v H) : (Ends.mk f r b c).rt v H := k
theorem g_bk {f b c} {r : VK} (k : b σ H) : (Ends.mk f r b c).bk σ H := k
theorem g_ct {f b c} {r : VK} (k : c σ H) : (Ends.mk f r b c).ct σ H := k
theorem g_var {i : Nat} {v : V} (h : σ[i]? = some (some v)) (k : Q v H) : tVar i σ H Q := ⟨v, h, k⟩
theorem g_c {v : V} (k : Q v H) : tC v σ H Q := k
theorem g_op {r : R2} (k : ta σ H fun x H1 => tb σ H1 fun y H2 => r x y H2 Q) : tOp r ta tb σ H Q := k
theorem g_un {r : V → Hp → VK → Prop} (k : ta σ H fun x H1 => r x H1 Q) : tUn r ta σ H Q := k
theorem g_nil {Q : List V → Hp → Prop} (k : Q [] H) : tNil σ H Q := k
theorem g_cons {tr : TA} {Q : List V → Hp → Prop} (k : ta σ H fun x H1 => tr σ H1 fun xs H2 => Q (x :: xs) H2) : tCons ta tr σ H Q := k
theorem g_cb {r : List V → Hp → VK → Prop} {t : TA} (k : t σ H fun vs H1 => r vs H1 Q) : tCB r t σ H Q := k
theorem g_call {sp : Sp} {dvs : List V} {t : TA} (k : t σ H fun vs H1 => sp (vs ++ dvs) H1 Q E) : tCall sp dvs E t σ H Q := k
def LstK (Q : VK) : List V → Hp → Prop := fun xs H1 => xs.length ≤ sizeLine ∧ ∀ p, H1 p = none → Q (.ref p) (upd H1 p (.lst xs))
def TupK (Q : VK) : List V → Hp → Prop := fun xs H1 => xs.length ≤ sizeLine ∧ ∀ p, H1 p = none → Q (.ref p) (upd H1 p (.tup xs))
theorem g_lst {t : TA} (k : t σ H (LstK Q)) : tLst t σ H Q := k
theorem g_tup {t : TA} (k : t σ H (TupK Q)) : tTup t σ H Q := k
/-- a display is laid -/
theorem v_lst {xs : List V} (S : M Rs H) (hn : xs.length ≤ 100000) (k : ∀ p H', M (pt p (.lst xs) :: Rs) H' → Q (.ref p) H') : LstK Q xs H :=
  ⟨Nat.le_trans hn (by decide), fun p hp => k p _ (S.new hp)⟩
theorem v_tup {xs : List V} (S : M Rs H) (hn : xs.length ≤ 100000) (k : ∀ p H', M (pt p (.tup xs) :: Rs) H' → Q (.ref p) H') : TupK Q xs H :=
  ⟨Nat.le_trans hn (by decide), fun p hp => k p _ (S.new hp)⟩
theorem g_test {Q : Bool → Hp → Prop} (k : te σ H fun x H' => ∃ b, x = .bl b ∧ Q b H') : tTest te σ H Q := k
theorem g_B {Q : Bool → Hp → Prop} (k : te σ H fun x H' => ∃ b, x = .bl b ∧ Q b H') : tB te σ H Q := k
theorem g_bl {b : Bool} {Q : Bool → Prop} (k : Q b) : ∃ c, V.bl b = .bl c ∧ Q c := ⟨b, rfl, k⟩
theorem g_and {s : TT} {Q : Bool → Hp → Prop} (k : tt σ H fun c H1 => if c = true then s σ H1 Q else Q false H1) : tAnd tt s σ H Q := k
theorem g_or {s : TT} {Q : Bool → Hp → Prop} (k : tt σ H fun c H1 => if c = true then Q true H1 else s σ H1 Q) : tOr tt s σ H Q := k
theorem g_not {Q : Bool → Hp → Prop} (k : tt σ H fun c H1 => Q (!c) H1) : tNot tt σ H Q := k
theorem g_andV (k : ta σ H fun x H1 => ∃ c, x = .bl c ∧ if c = true then tb σ H1 Q else Q (.bl false) H1) : tAndV ta tb σ H Q := k
theorem g_orV (k : ta σ H fun x H1 => ∃ c, x = .bl c ∧ if c = true then Q (.bl true) H1 else tb σ H1 Q) : tOrV ta tb σ H Q := k
theorem g_notV (k : ta σ H fun x H1 => ∃ c, x = .bl c ∧ Q (.bl (!c)) H1) : tNotV ta σ H Q := k
theorem g_ifE (k : tt σ H fun c H1 => if c = true then ta σ H1 Q else tb σ H1 Q) : tIf tt ta tb σ H Q := k
theorem g_chain {r r' : R2} (k : ta σ H fun x H1 => tb σ H1 fun y H2 => r x y H2 fun z H3 => ∃ k, z = .bl k ∧ (if k = true then tc σ H3 fun w' H4 => r' y w' H4 Q else Q (.bl false) H3)) : tChain r r' ta tb tc σ H Q := k
theorem g_aug {i : Nat} {ti : TIp} {v : V} (h : σ[i]? = some (some v)) (k : te σ H fun y H1 => ti v y H1 fun z H2 => D.nx (σ.set i (some z)) H2) : tAug i te ti D σ H := ⟨v, h, k⟩
theorem g_augS {tget : V → V → Hp → VK → Prop} {tip : TIp} {tset : TSet} (k : ta σ H fun o H1 => tb σ H1 fun i H2 => tget o i H2 fun x H3 => te σ H3 fun y H4 => tip x y H4 fun z H5 => tset o i z H5 fun H6 => D.nx σ H6) :
    tAugS ta tb te tget tip tset D σ H := k
theorem g_sub {t3 : TSet} {v : V} {Q : L2.St → Hp → Prop} (k : ta σ H fun o H1 => tb σ H1 fun i H2 => t3 o i v H2 fun H3 => Q σ H3) : gSub ta tb t3 v σ H Q := k
theorem g_sl {r : V → Option Int → Option Int → Hp → VK → Prop} {tl th : TO} (k : te σ H fun x H1 => tl σ H1 fun l H2 => th σ H2 fun u H3 => r x l u H3 Q) : tSl r te tl th σ H Q := k
theorem g_noPart {Q : Option Int → Hp → Prop} (k : Q none H) : tNoPart σ H Q := k
theorem g_part {Q : Option Int → Hp → Prop} (k : te σ H fun x H1 => ∃ i, x = .int i ∧ Q (some i) H1) : tPart te σ H Q := k
theorem g_int {i : Int} {Q : Int → Prop} (k : Q i) : ∃ j, V.int i = .int j ∧ Q j := ⟨i, rfl, k⟩
/-! values -/
theorem v_add {i j : Int} (k : Q (.int (i + j)) H) : uAdd K (.int i) (.int j) H Q := .inl ⟨i, j, rfl, rfl, k⟩
theorem v_sub {i j : Int} (k : Q (.int (i - j)) H) : uSub (.int i) (.int j) H Q := ⟨i, j, rfl, rfl, k⟩
theorem v_mul {i j : Int} (h : CMul i j ∨ CMulW i j) (k : Q (.int (i * j)) H) : uMul (.int i) (.int j) H Q := h.elim (fun h => .inl ⟨i, j, rfl, rfl, h, k⟩) fun h => .inr (.inl ⟨i, j, rfl, rfl, h, k⟩)
theorem v_mod {i j : Int} (h : 0 < j) (k : Q (.int (i % j)) H) : uMod (.int i) (.int j) H Q := ⟨i, j, rfl, rfl, h, k⟩
theorem div_ok {i j : Int} (h : 0 < j ∧ j < 2 ^ 64) : CDivW i j := wide_div (b := 64) h.1 (by omega) (by decide) (by decide)
theorem v_div {i j : Int} (h : 0 < j ∧ j < 2 ^ 64) (k : Q (.int (i / j)) H) : uDiv (.int i) (.int j) H Q := ⟨i, j, rfl, rfl, div_ok h, k⟩
theorem v_iadd {i j : Int} (k : Q (.int (i + j)) H) : iAdd (.int i) (.int j) H Q := .inl ⟨i, j, rfl, rfl, k⟩
theorem v_isub {i j : Int} (k : Q (.int (i - j)) H) : iSub (.int i) (.int j) H Q := ⟨i, j, rfl, rfl, k⟩
theorem v_imul {i j : Int} (h : CMul i j) (k : Q (.int (i * j)) H) : iMul (.int i) (.int j) H Q := ⟨i, j, rfl, rfl, h, k⟩
theorem v_idiv {i j : Int} (h : CDiv i j) (k : Q (.int (i / j)) H) : iDiv (.int i) (.int j) H Q := ⟨i, j, rfl, rfl, h, k⟩
theorem v_lt {i j : Int} (k : Q (.bl (decide (i < j))) H) : uLt (.int i) (.int j) H Q := ⟨i, j, rfl, rfl, k⟩
theorem v_le {i j : Int} (k : Q (.bl (decide (i ≤ j))) H) : uLe (.int i) (.int j) H Q := ⟨i, j, rfl, rfl, k⟩
theorem v_gt {i j : Int} (k : Q (.bl (decide (j < i))) H) : uGt (.int i) (.int j) H Q := ⟨i, j, rfl, rfl, k⟩
theorem v_ge {i j : Int} (k : Q (.bl (decide (j ≤ i))) H) : uGe (.int i) (.int j) H Q := ⟨i, j, rfl, rfl, k⟩
theorem v_eqI {i j : Int} (k : Q (.bl (decide (i = j))) H) : uEq K (.int i) (.int j) H Q := .inl ⟨rfl, by
  have e : decide (V.int i = V.int j) = decide (i = j) := decide_eq_decide.mpr ⟨fun h => V.int.inj h, fun h => by rw [h]⟩
  rw [e]
  exact k⟩
theorem v_neI {i j : Int} (k : Q (.bl (!decide (i = j))) H) : uNe K (.int i) (.int j) H Q := .inl ⟨rfl, by
  have e : decide (V.int i = V.int j) = decide (i = j) := decide_eq_decide.mpr ⟨fun h => V.int.inj h, fun h => by rw [h]⟩
  rw [e]
  exact k⟩
theorem v_eqS {i j : Str} (k : Q (.bl (decide (i = j))) H) : uEq K (.str i) (.str j) H Q := .inl ⟨rfl, by
  have e : decide (V.str i = V.str j) = decide (i = j) := decide_eq_decide.mpr ⟨fun h => V.str.inj h, fun h => by rw [h]⟩
  rw [e]
  exact k⟩
theorem v_eqB {i j : Bool} (k : Q (.bl (decide (i = j))) H) : uEq K (.bl i) (.bl j) H Q := .inl ⟨rfl, by
  have e : decide (V.bl i = V.bl j) = decide (i = j) := decide_eq_decide.mpr ⟨fun h => V.bl.inj h, fun h => by rw [h]⟩
  rw [e]
  exact k⟩
theorem v_neB {i j : Bool} (k : Q (.bl (!decide (i = j))) H) : uNe K (.bl i) (.bl j) H Q := .inl ⟨rfl, by
  have e : decide (V.bl i = V.bl j) = decide (i = j) := decide_eq_decide.mpr ⟨fun h => V.bl.inj h, fun h => by rw [h]⟩
  rw [e]
  exact k⟩
theorem v_eqD {x y : V} {d e : PyData} (h1 : Dp K H x d) (h2 : Dp K H y e) (s1 : SeqAt.shaped d = true) (s2 : SeqAt.shaped e = true) (k : Q (.bl (PyData.eqv d e)) H) : uEq K x y H Q := .inr ⟨d, e, h1, h2, s1, s2, k⟩
theorem v_neD {x y : V} {d e : PyData} (h1 : Dp K H x d) (h2 : Dp K H y e) (s1 : SeqAt.shaped d = true) (s2 : SeqAt.shaped e = true) (k : Q (.bl (!PyData.eqv d e)) H) : uNe K x y H Q := .inr ⟨d, e, h1, h2, s1, s2, k⟩
theorem v_ixL {p : Addr} {xs : List V} {i : Int} {v : V} (h : SqL K H p xs) (ha : atI xs i = some v) (k : Q v H) : uIx K (.ref p) (.int i) H Q := .inl ⟨p, xs, i, v, rfl, rfl, h, ha, k⟩
theorem v_ixT {p : Addr} {xs : List V} {i : Int} {v : V} (h : SqT K H p xs) (ha : atI xs i = some v) (k : Q v H) : uIx K (.ref p) (.int i) H Q := .inr (.inl ⟨p, xs, i, v, rfl, rfl, h, ha, k⟩)
theorem v_get {p : Addr} {xs : List V} {n : Int} {v : V} (h : SqL K H p xs) (h0 : 0 ≤ n) (ha : xs[n.toNat]? = some v) (k : Q v H) : gIx K (.ref p) (.int n) H Q := .inl ⟨p, xs, n, v, rfl, rfl, h, h0, ha, k⟩
theorem ixN_int {n : Nat} {i : Int} (h0 : 0 ≤ i) (h1 : i < n) : ixN n i = some i.toNat := by
  unfold ixN
  rw [if_pos h0, if_pos h1]
theorem atI_int {α : Type} {xs : List α} {i : Int} {v : α} (h0 : 0 ≤ i) (h : xs[i.toNat]? = some v) : atI xs i = some v := by
  have hl := (List.getElem?_eq_some_iff.mp h).1
  unfold atI
  rw [ixN_int h0 (by omega)]
  exact h
theorem atI_ints {ns : List Int} {i : Int} (h0 : 0 ≤ i) (h1 : i < ns.length) : atI (ns.map V.int) i = some (.int (ns.getD i.toNat 0)) := by
  refine atI_int h0 ?_
  have hl : i.toNat < ns.length := by omega
  rw [List.getElem?_map, List.getElem?_eq_getElem hl, List.getD_eq_getElem?_getD, List.getElem?_eq_getElem hl]
  rfl
theorem ixN_nat {n j : Nat} (hj : j < n) : ixN n (j : Int) = some j := by
  unfold ixN
  rw [if_pos (Int.natCast_nonneg j), if_pos (by omega)]
  simp
/-- xs[j] = v, the list owned -/
theorem v_set {p : Addr} {xs : List V} {n : Int} {j : Nat} {v : V} {Q : Hp → Prop} (S : M Rs H) (i : Nat) (e : Rs[i]? = some (pt p (.lst xs))) (hj : ixN xs.length n = some j) (k : ∀ H', M (Rs.set i (pt p (.lst (xs.set j v)))) H' → Q H') :
    uSet (.ref p) (.int n) v H Q := .inl ⟨p, xs, n, j, rfl, rfl, S.got i e, hj, k _ (S.putAt i e)⟩
theorem v_cat {a b : Addr} {xs ys : List V} (S : M Rs H) (h1 : H a = some (.lst xs)) (h2 : H b = some (.lst ys)) (hz : xs.length + ys.length ≤ 100000) (k : ∀ p H', M (pt p (.lst (xs ++ ys)) :: Rs) H' → Q (.ref p) H') : uAdd K (.ref a) (.ref b) H Q :=
  .inr (.inr (.inl ⟨a, b, xs, ys, rfl, rfl, SqL.of h1, SqL.of h2, Nat.le_trans hz (by decide), fun p hp => k p _ (S.new hp)⟩))
theorem v_catS {a b : Addr} {xs ys : List V} (S : M Rs H) (h1 : SqL K H a xs) (h2 : SqL K H b ys) (hz : xs.length + ys.length ≤ 100000) (k : ∀ p H', M (pt p (.lst (xs ++ ys)) :: Rs) H' → Q (.ref p) H') : uAdd K (.ref a) (.ref b) H Q :=
  .inr (.inr (.inl ⟨a, b, xs, ys, rfl, rfl, h1, h2, Nat.le_trans hz (by decide), fun p hp => k p _ (S.new hp)⟩))
theorem v_slL {a : Addr} {xs : List V} {lo hi : Option Int} (S : M Rs H) (h : SqL K H a xs) (k : ∀ p H', M (pt p (.lst (cutV xs lo hi)) :: Rs) H' → Q (.ref p) H') : uSl K (.ref a) lo hi H Q :=
  .inl ⟨a, xs, rfl, h, fun p hp => k p _ (S.new hp)⟩
def RevK (K : PySem.W.Frag) (Q : VK) : VK := fun x H1 => ∃ a xs, x = .ref a ∧ SqL K H1 a xs ∧ ∀ p, H1 p = none → Q (.ref p) (upd H1 p (.lst xs.reverse))
theorem g_rev (k : te σ H (RevK K Q)) : tRevL K te σ H Q := k
theorem v_rev {a : Addr} {xs : List V} (S : M Rs H) (h : SqL K H a xs) (k : ∀ p H', M (pt p (.lst xs.reverse) :: Rs) H' → Q (.ref p) H') : RevK K Q (.ref a) H :=
  ⟨a, xs, rfl, h, fun p hp => k p _ (S.new hp)⟩
theorem v_lenL {a : Addr} {xs : List V} (h : SqL K H a xs) (k : Q (.int (xs.length : Nat)) H) : uLen K [.ref a] H Q := .inl ⟨_, _, rfl, .inl ⟨xs, h, rfl⟩, k⟩
/-- xs.append(v) -/
theorem g_bm {T : String} {r : V → List V → Hp → VK → Prop} {t : TA} (k : te σ H fun x H1 => tyV K T x H1 ∧ t σ H1 fun xs H2 => r x xs H2 Q) : tBM K T r te t σ H Q := k
theorem g_bm0 {T : String} {r : V → List V → Hp → VK → Prop} (k : te σ H fun x H1 => tyV K T x H1 ∧ r x [] H1 Q) : tBM0 K T r te σ H Q := k
theorem v_tyL {a : Addr} {xs : List V} {φ : Prop} (h : SqL K H a xs) (k : φ) : tyV K "list" (.ref a) H ∧ φ := ⟨.inl ⟨rfl, xs, h⟩, k⟩
theorem v_app {p : Addr} {xs : List V} {v : V} (S : M Rs H) (i : Nat) (e : Rs[i]? = some (pt p (.lst xs))) (hz : xs.length < 100000) (k : ∀ H', M (Rs.set i (pt p (.lst (xs ++ [v])))) H' → Q .non H') : rAppend (.ref p) [v] H Q :=
  ⟨p, xs, v, rfl, rfl, S.got i e, Nat.lt_of_lt_of_le hz (by decide), k _ (S.putAt i e)⟩
theorem v_if {b : Bool} {A B : Prop} (h1 : b = true → A) (h2 : b = false → B) : if b = true then A else B := by
  cases b with
  | true => exact h1 rfl
  | false => exact h2 rfl
theorem v_ifD {c : Prop} [Decidable c] {A B : Prop} (h1 : c → A) (h2 : ¬ c → B) : if decide c = true then A else B := by
  by_cases h : c
  · rw [decide_eq_true h]
    exact h1 h
  · rw [decide_eq_false h]
    exact h2 h
theorem v_ifN {c : Prop} [Decidable c] {A B : Prop} (h1 : ¬ c → A) (h2 : c → B) : if (!decide c) = true then A else B := by
  by_cases h : c
  · rw [decide_eq_true h]
    exact h2 h
  · rw [decide_eq_false h]
    exact h1 h
theorem v_ifT {A B : Prop} (k : A) : if true = true then A else B := k
theorem v_ifF {A B : Prop} (k : B) : if false = true then A else B := k
end
end RC
namespace RC
open PySem PySem.Spec PyProof.Rows L2
/-- the function object at an address -/
def fdOf (K : PySem.W.Frag) (f : Addr) : FuncData := match K.lookup f with
  | some ⟨_, _, .func fd, _⟩ => fd
  | _ => PySem.W.fnOf "" "" ⟨[], [], none, [], [], none, []⟩ [] ⟨.function, [], false, false, []⟩ .none .none .none .none none .none .none
theorem fd_of {K : PySem.W.Frag} {x q : Str} {ar : Arguments} {bd : List Stmt} {sc : Scope} {dvs : List V} {kws : List (Str × V)} {f : Addr} (h : ∃ fd, FunD K x q ar bd sc dvs kws f fd) : FunD K x q ar bd sc dvs kws f (fdOf K f) := by
  obtain ⟨fd, F⟩ := h
  have e : fdOf K f = fd := by
    obtain ⟨⟨oc, od, dV, kV, doc, pm, an, cdv, ct, osl, rfl, lk, _, _, _⟩, _⟩ := F
    unfold fdOf
    rw [lk]
  rw [e]
  exact F
/-- a list that may be read for ever -/
def rdL (K : PySem.W.Frag) (a : Addr) (xs : List V) : Res := ⟨fun F l => l = [] ∧ SqL K F a xs, fun _ _ _ e h => ⟨h.1, e.sqL h.2⟩⟩
theorem M.start {K : PySem.W.Frag} {H : Hp} {a : Addr} {xs : List V} (h : SqL K H a xs) : M [rdL K a xs] H :=
  ⟨H, [], ⟨[], [], rfl, ⟨rfl, h⟩, rfl⟩, ⟨Ext.refl H, (fun _ h => nomatch h), List.nodup_nil⟩⟩
theorem M.gotR {K : PySem.W.Frag} {Rs : List Res} {H : Hp} {a : Addr} {xs : List V} (h : M Rs H) (i : Nat) (e : Rs[i]? = some (rdL K a xs)) : SqL K H a xs := by
  obtain ⟨F, L, ⟨l1, l2, rfl, ⟨_, q⟩, b⟩, m⟩ := h.at i e
  exact m.ex.sqL q
/-- what the resources bring about -/
def Ent (Rs : List Res) (φ : Hp → Prop) : Prop := ∀ H, M Rs H → φ H
def rAbs : List V → Hp → VK → Prop := fun xs H Q => ∃ i, xs = [.int i] ∧ Q (.int (if i < 0 then -i else i)) H
theorem cr_abs {X : Cx} : CallR X (.builtin "abs") rAbs := call_abs
def rListOf (K : PySem.W.Frag) : List V → Hp → VK → Prop := fun xs H Q => ∃ p ys, xs = [.ref p] ∧ (SqL K H p ys ∨ SqT K H p ys) ∧ ∀ l, H l = none → Q (.ref l) (upd H l (.lst ys))
theorem cr_list {X : Cx} : CallR X (.type "list") (rListOf X.K) := call_list_of
theorem v_abs {i : Int} {H : Hp} {Q : VK} (k : Q (.int (if i < 0 then -i else i)) H) : rAbs [.int i] H Q := ⟨i, rfl, k⟩
theorem v_list {K : PySem.W.Frag} {Rs : List Res} {H : Hp} {Q : VK} {a : Addr} {xs : List V} (S : M Rs H) (h : SqL K H a xs ∨ SqT K H a xs) (k : ∀ p H', M (pt p (.lst xs) :: Rs) H' → Q (.ref p) H') : rListOf K [.ref a] H Q :=
  ⟨a, xs, rfl, h, fun p hp => k p _ (S.new hp)⟩
def rIsN : R2 := fun x y H Q => y = .non ∧ Q (.bl (decide (x = .non))) H
def rNotN : R2 := fun x y H Q => y = .non ∧ Q (.bl (!decide (x = .non))) H
end RC
namespace RC
open PySem PySem.Spec PyProof.Rows L2
/-! ### loops -/
def ForW (J : It) (g : TG) (tb : TS) (D : Ends) (σ : L2.St) (H1 : Hp) : Prop := ∃ W : Nat → Nat → L2.St → Hp → Prop, (∃ m, W 0 m σ H1) ∧ ∀ i m σ H, W i m σ H →
  (J.stop i H ∧ D.nx σ H) ∨ (J.go i H ∧ ∃ N : L2.St → Hp → Prop, (∀ σ' H', N σ' H' → ∃ m', m' < m ∧ W (i + 1) m' σ' H') ∧ ∀ x H', J.yld i H x H' → g x σ H' fun σ2 H2 => tb { D with nx := N, ct := N, bk := D.nx } σ2 H2)
def LcW (J : It) (g : TG) (tt : TT) (te : TE) (vs : List Nat) (σ : L2.St) (Q : VK) (H1 : Hp) : Prop := ∀ D, H1 D = none → ∃ W : Nat → Nat → Hp → Prop, (∃ m, W 0 m (upd H1 D (.lst []))) ∧ ∀ i m H, W i m H →
  (J.stop i H ∧ Q (.ref D) H) ∨ (J.go i H ∧ ∃ Nx : Hp → Prop, (∀ H', Nx H' → ∃ m', m' < m ∧ W (i + 1) m' H') ∧ ∀ x H', J.yld i H x H' → g x (wipe σ vs) H' fun σ2 H2 => wipe σ2 vs = wipe σ vs ∧ tt σ2 H2 fun b H3 =>
    if b = true then te σ2 H3 fun y H4 => ∃ acc, H4 D = some (.lst acc) ∧ acc.length < sizeLine ∧ Nx (upd H4 D (.lst (acc ++ [y]))) else Nx H3)
section
variable {K : PySem.W.Frag} {σ : L2.St} {H : Hp} {Q : VK} {D : Ends} {tb : TS} {te tl : TE} {ta : TA} {tt : TT} {g : TG} {vs : List Nat} {wi : TI} {J : It} {R : It → Hp → Prop} {a : Addr} {xs : List V} {Rs : List Res}
theorem g_for (k : wi σ H fun J H1 => ForW J g tb D σ H1) : tFor wi g tb D σ H := k
theorem g_lc (k : wi σ H fun J H1 => LcW J g tt te vs σ Q H1) : tLc wi g tt te vs σ H Q := k
def ItL (K : PySem.W.Frag) (R : It → Hp → Prop) : VK := fun x H1 => ∃ a, x = .ref a ∧ (∃ xs, SqL K H1 a xs) ∧ R (Itl K a) H1
def ItR (R : It → Hp → Prop) : List V → Hp → Prop := fun vs H1 => ∃ j : Int, vs = [.int j] ∧ -(2 ^ 62) ≤ j ∧ j < 2 ^ 62 ∧ R (Itr 0 j.toNat) H1
def ItV (K : PySem.W.Frag) (R : It → Hp → Prop) : List V → Hp → Prop := fun vs H1 => ∃ (a : Addr) (xs : List V), vs = [.ref a] ∧ SqL K H1 a xs ∧ R (Itv K a xs.length) H1
theorem g_iList (k : tl σ H (ItL K R)) : iList K tl σ H R := k
theorem v_itL (h : SqL K H a xs) (k : R (Itl K a) H) : ItL K R (.ref a) H := ⟨a, rfl, ⟨xs, h⟩, k⟩
theorem g_iRng1 (k : ta σ H (ItR R)) : iRng1 ta σ H R := k
theorem v_itR {j : Int} (h : -(2 ^ 62) ≤ j ∧ j < 2 ^ 62) (k : R (Itr 0 j.toNat) H) : ItR R [V.int j] H := ⟨j, rfl, h.1, h.2, k⟩
theorem g_iRev (k : ta σ H (ItV K R)) : iRev K ta σ H R := k
theorem v_itV (h : SqL K H a xs) (k : R (Itv K a xs.length) H) : ItV K R [V.ref a] H := ⟨a, xs, rfl, h, k⟩
/-- a for, by a word of the turn, the slots and the heap -/
theorem for_W {n : Nat} {G : Hp → Prop} {Y : Nat → Hp → V → Hp → Prop} (w : Walk J n G Y) (Pv : Nat → L2.St → Hp → Prop) (h0 : Pv 0 σ H) (hG : ∀ i σ H, i ≤ n → Pv i σ H → G H)
    (hs : ∀ i x σ H H', i < n → Pv i σ H → Y i H x H' → g x σ H' fun σ2 H2 => tb { D with nx := Pv (i + 1), ct := Pv (i + 1), bk := D.nx } σ2 H2) (hd : ∀ σ H, Pv n σ H → D.nx σ H) : ForW J g tb D σ H := for_it w Pv h0 hG hs hd
/-- a comprehension: P of the turn and the items so far; the resources Rs stand at each turn -/
def PvM (P : Nat → List V → Prop) (E : Addr) (Rs : List Res) (i : Nat) (H : Hp) : Prop := ∃ acc, P i acc ∧ M (pt E (.lst acc) :: Rs) H
def LcK (N : Hp → Prop) (E : Addr) : VK := fun y H4 => ∃ acc, H4 E = some (.lst acc) ∧ acc.length < sizeLine ∧ N (upd H4 E (.lst (acc ++ [y])))
theorem lc_W {n : Nat} {G : Hp → Prop} {Y : Nat → Hp → V → Hp → Prop} (w : Walk J n G Y) (S : M Rs H) (P : Nat → List V → Prop) (h0 : P 0 []) (hG : ∀ H, M Rs H → G H)
    (hs : ∀ i x acc E H H', i < n → P i acc → M (pt E (.lst acc) :: Rs) H → Y i H x H' → g x (wipe σ vs) H' fun σ2 H2 => wipe σ2 vs = wipe σ vs ∧ tt σ2 H2 fun b H3 => if b = true then te σ2 H3 (LcK (PvM P E Rs (i + 1)) E) else PvM P E Rs (i + 1) H3)
    (hd : ∀ E acc H, P n acc → M (pt E (.lst acc) :: Rs) H → Q (.ref E) H) : LcW J g tt te vs σ Q H := by
  intro E hE
  refine lc_it w (PvM P E Rs) ⟨[], h0, S.new hE⟩ (fun i H _ ⟨acc, _, S⟩ => hG H S.tl) (fun i x H H' hi ⟨acc, hp, S⟩ y => hs i x acc E H H' hi hp S y) fun H ⟨acc, hp, S⟩ => hd E acc H hp S
theorem lc_next {N : Hp → Prop} {E : Addr} {y : V} {acc : List V} (S : M Rs H) (i : Nat) (e : Rs[i]? = some (pt E (.lst acc))) (hz : acc.length < 100000) (k : ∀ H', M (Rs.set i (pt E (.lst (acc ++ [y])))) H' → N H') : LcK N E y H :=
  ⟨acc, S.got i e, Nat.lt_of_lt_of_le hz (by decide), k _ (S.putAt i e)⟩
theorem g_yes {Q : Bool → Hp → Prop} (k : Q true H) : tYes σ H Q := k
theorem g_name {i : Nat} {v : V} {Q : L2.St → Hp → Prop} (k : Q (σ.set i (some v)) H) : gName i v σ H Q := k
end
theorem ints_get {ns : List Int} {i : Nat} {x : V} (h : (ns.map V.int)[i]? = some x) : ∃ n, ns[i]? = some n ∧ x = .int n := by
  rw [List.getElem?_map] at h
  cases e : ns[i]? with
  | none =>
    rw [e] at h
    cases h
  | some n =>
    rw [e] at h
    exact ⟨n, rfl, (Option.some.inj h).symm⟩
theorem take_more {α : Type} {l : List α} {i : Nat} {x : α} (h : l[i]? = some x) : l.take (i + 1) = l.take i ++ [x] := by
  rw [List.take_add_one, h]
  rfl
end RC
namespace RC
open PySem PySem.Spec PyProof.Rows L2
theorem cut_to (xs : List V) (k : Nat) : cutV xs none (some (k : Int)) = xs.take k := by
  unfold cutV
  rw [HT.sIx_none, HT.sIx_nat, List.drop_zero, Nat.sub_zero]
  rcases Nat.le_total k xs.length with h | h
  · rw [Nat.min_eq_left h]
  · rw [Nat.min_eq_right h, List.take_of_length_le (Nat.le_refl _), List.take_of_length_le h]
theorem cut_from (xs : List V) (k : Nat) : cutV xs (some (k : Int)) none = xs.drop k := by
  unfold cutV
  rw [HT.sIx_none, HT.sIx_nat]
  rcases Nat.le_total k xs.length with h | h
  · rw [Nat.min_eq_left h, List.take_of_length_le]
    rw [List.length_drop]
    exact Nat.le_refl _
  · rw [Nat.min_eq_right h, List.drop_of_length_le h, List.drop_of_length_le (Nat.le_refl _), List.take_nil]
theorem cut_mid (xs : List V) (a b : Nat) : cutV xs (some (a : Int)) (some (b : Int)) = (xs.drop a).take (b - a) := by
  unfold cutV
  rw [HT.sIx_nat, HT.sIx_nat]
  rcases Nat.le_total a xs.length with h | h
  · rw [Nat.min_eq_left h]
    rcases Nat.le_total b xs.length with g | g
    · rw [Nat.min_eq_left g]
    · rw [Nat.min_eq_right g, List.take_of_length_le, List.take_of_length_le]
      · rw [List.length_drop]
        omega
      · rw [List.length_drop]
        exact Nat.le_refl _
  · rw [Nat.min_eq_right h, List.drop_of_length_le h, List.drop_of_length_le (Nat.le_refl _), List.take_nil, List.take_nil]
theorem g_wipe {a b : L2.St} {φ : Prop} (h : a = b) (k : φ) : a = b ∧ φ := ⟨h, k⟩
end RC
namespace RC
open PySem PySem.Spec PyProof.Rows L2
/-- all are ints of which P holds -/
def AllI (P : Int → Prop) : List V → Prop
  | [] => True
  | .int n :: r => P n ∧ AllI P r
  | _ => False
theorem AllI.get {P : Int → Prop} : ∀ {xs : List V}, AllI P xs → ∀ {j : Nat}, j < xs.length → ∃ n, P n ∧ xs[j]? = some (.int n)
  | [], _, j, h => absurd h (Nat.not_lt_zero _)
  | .int n :: r, h, 0, _ => ⟨n, h.1, rfl⟩
  | .int n :: r, h, j + 1, hj => by
    obtain ⟨m, a, b⟩ := AllI.get h.2 (Nat.lt_of_succ_lt_succ hj)
    exact ⟨m, a, by simpa using b⟩
  | .non :: _, h, _, _ => h.elim
  | .bl _ :: _, h, _, _ => h.elim
  | .str _ :: _, h, _, _ => h.elim
  | .byt _ :: _, h, _, _ => h.elim
  | .flt _ :: _, h, _, _ => h.elim
  | .ref _ :: _, h, _, _ => h.elim
  | .ty _ :: _, h, _, _ => h.elim
/-- one of a written menu of ints -/
theorem menuI {xs : List V} {v : Int} (P : Int → Prop) (h : AllI P xs) (h0 : 0 ≤ v) (h1 : v < xs.length) : ∃ n, P n ∧ atI xs v = some (.int n) := by
  obtain ⟨n, a, b⟩ := h.get (j := v.toNat) (by omega)
  exact ⟨n, a, atI_int h0 b⟩
/-- one of a written menu -/
theorem menu {xs : List V} {v : Int} (h0 : 0 ≤ v) (h1 : v < xs.length) : ∃ x, x ∈ xs ∧ atI xs v = some x := by
  have hl : v.toNat < xs.length := by omega
  exact ⟨xs[v.toNat], List.getElem_mem hl, atI_int h0 (List.getElem?_eq_getElem hl)⟩
theorem set_len {α : Type} {l : List α} {i : Nat} {x : α} : (l.set i x).length = l.length := List.length_set
theorem map_set {α β : Type} (f : α → β) (l : List α) (i : Nat) (x : α) : (l.map f).set i (f x) = (l.set i x).map f := (List.map_set).symm
end RC
namespace RC
theorem v_ifNT {A B : Prop} (k : B) : if (!true) = true then A else B := k
theorem v_ifNF {A B : Prop} (k : A) : if (!false) = true then A else B := k
end RC
namespace RC
open PySem PySem.Spec PyProof.Rows L2
/-- some of the resources, in another order -/
def Sub (Rs' Rs : List Res) : Prop := ∀ F L, Sat F Rs L → ∃ L1 L2, L.Perm (L1 ++ L2) ∧ Sat F Rs' L1
theorem Sub.refl (Rs : List Res) : Sub Rs Rs := fun _ L h => ⟨L, [], by rw [List.append_nil], h⟩
theorem Sub.nil (Rs : List Res) : Sub [] Rs := fun _ L _ => ⟨[], L, .refl _, rfl⟩
theorem Sub.cons {Rs Rs' : List Res} {R : Res} (i : Nat) (e : Rs[i]? = some R) (h : Sub Rs' (Rs.eraseIdx i)) : Sub (R :: Rs') Rs := by
  intro F L s
  obtain ⟨L0, p0, l1, l2, rfl, a, b⟩ := s.perm (perm_at i e)
  obtain ⟨L1, L2, p1, c⟩ := h F l2 b
  refine ⟨l1 ++ L1, L2, p0.trans ?_, l1, L1, rfl, a, c⟩
  rw [List.append_assoc]
  exact p1.append_left l1
theorem Sub.tl {Rs Rs' : List Res} {R : Res} (h : Sub Rs' Rs) : Sub Rs' (R :: Rs) := by
  rintro F L ⟨l1, l2, rfl, a, b⟩
  obtain ⟨L1, L2, p1, c⟩ := h F l2 b
  refine ⟨L1, l1 ++ L2, (p1.append_left l1).trans ?_, c⟩
  rw [← List.append_assoc, ← List.append_assoc]
  exact List.Perm.append_right _ List.perm_append_comm
theorem M.sub {Rs Rs' : List Res} {H : Hp} (q : Sub Rs' Rs) (h : M Rs H) : M Rs' H := by
  obtain ⟨F, L, a, m⟩ := h
  obtain ⟨L1, L2, p, b⟩ := q F L a
  have m2 := m.perm p
  refine ⟨F, L1, b, m2.ex, fun c hc => m2.own c (List.mem_append_left _ hc), ?_⟩
  have nd := m2.nd
  rw [List.map_append] at nd
  exact (List.nodup_append.mp nd).1
end RC
namespace RC
open PySem PySem.Spec PyProof.Rows L2
section
variable {X : Cx}
theorem units65 {k : Nat} {A : Around} (hr : Room k A) : A.units + 65 < cLine := by
  have := hr.un
  omega
def rDIn : R2 := fun x y H Q => ∃ a o, y = .ref a ∧ DGet H a x o ∧ Q (.bl o.isSome) H
def rDNotIn : R2 := fun x y H Q => ∃ a o, y = .ref a ∧ DGet H a x o ∧ Q (.bl (!o.isSome)) H
theorem op_din (hu : X.A.units + 1 < cLine) : OpR X (compareOp .In) rDIn := by
  intro pins s σ H x y v u Q I rx ry h
  obtain ⟨a, o, rfl, g, q⟩ := h
  cases (show u = Value.ref a from ry)
  exact d_in hu I g rx fun s' I' => ⟨.bl o.isSome, H, I', rfl, q⟩
theorem op_dnotin (hu : X.A.units + 1 < cLine) : OpR X (compareOp .NotIn) rDNotIn := by
  intro pins s σ H x y v u Q I rx ry h
  obtain ⟨a, o, rfl, g, q⟩ := h
  cases (show u = Value.ref a from ry)
  exact d_notIn hu I g rx fun s' I' => ⟨.bl (!o.isSome), H, I', rfl, q⟩
def rInS : R2 := fun x y H Q => ∃ i j, x = .str i ∧ y = .str j ∧ Q (.bl (!(Builtin.Str.occurrences j i 0 j.length 1).isEmpty)) H
def rNotInS : R2 := fun x y H Q => ∃ i j, x = .str i ∧ y = .str j ∧ Q (.bl (!(!(Builtin.Str.occurrences j i 0 j.length 1).isEmpty))) H
def uIn (K : PySem.W.Frag) : R2 := fun x y H Q => rIn K false x y H Q ∨ rInD K x y H Q ∨ rDIn x y H Q ∨ rInS x y H Q
def uNotIn (K : PySem.W.Frag) : R2 := fun x y H Q => rIn K true x y H Q ∨ rNotInD K x y H Q ∨ rDNotIn x y H Q ∨ rNotInS x y H Q
theorem uo_in {k : Nat} (hr : Room k X.A) : OpR X (compareOp .In) (uIn X.K) := op_in_seq.or ((op_inD (units65 hr)).or ((op_din (hu_of hr)).or op_in_str))
theorem uo_notin {k : Nat} (hr : Room k X.A) : OpR X (compareOp .NotIn) (uNotIn X.K) := op_notIn_seq.or ((op_notInD (units65 hr)).or ((op_dnotin (hu_of hr)).or op_notin_str))
theorem op_isN' : OpR X (compareOp .Is) rIsN := op_isN
theorem op_notN' : OpR X (compareOp .IsNot) rNotN := op_notN
end
section
variable {K : PySem.W.Frag} {σ : L2.St} {H : Hp} {Q : VK} {D : Ends} {Rs : List Res} {E : XK}
theorem v_neg {i : Int} (k : Q (.int (-i)) H) : rU (fun i => .int (-i)) (.int i) H Q := ⟨i, rfl, k⟩
theorem v_isN {x : V} (k : Q (.bl (decide (x = .non))) H) : rIsN x .non H Q := ⟨rfl, k⟩
theorem v_notN {x : V} (k : Q (.bl (!decide (x = .non))) H) : rNotN x .non H Q := ⟨rfl, k⟩
theorem g_par {i j : Nat} {ta : TA} (k : ta σ H fun vs H1 => ∃ v w, vs = [v, w] ∧ D.nx ((σ.set i (some v)).set j (some w)) H1) : tPar i j ta D σ H := k
theorem v_two {x y : V} {P : V → V → Prop} (k : P x y) : ∃ v w, [x, y] = [v, w] ∧ P v w := ⟨x, y, rfl, k⟩
theorem g_callN {n m : Nat} {sp : Sp} {gV : List V → List V → List V} {t tk : TA} (k : t σ H fun vs H1 => tk σ H1 fun zs H2 => vs.length = n ∧ zs.length = m ∧ sp (gV vs zs) H2 Q E) : tCallN n m sp gV E t tk σ H Q := k
theorem g_callP {n m l : Nat} {π : {α : Type} → List α → List α} {sp : Sp} {gV : List V → List V → List V} {t tk : TA} (k : t σ H fun vs H1 => tk σ H1 fun zs H2 => vs.length = n ∧ zs.length = m ∧ (gV vs zs).length = l ∧ sp (π (gV vs zs)) H2 Q E) : tCallP n m l π sp gV E t tk σ H Q := k
theorem v_lens {a b : List V} {n m : Nat} {P : Prop} (h1 : a.length = n) (h2 : b.length = m) (k : P) : a.length = n ∧ b.length = m ∧ P := ⟨h1, h2, k⟩
/-- a, b = t -/
theorem g_gtup {n : Nat} {t : TGs} {a : Addr} {xs : List V} {Q : L2.St → Hp → Prop} (h : SqT K H a xs) (hn : xs.length = n) (k : t xs σ H Q) : gTup K n t (.ref a) σ H Q := ⟨a, xs, rfl, h, hn, k⟩
theorem g_gnil {Q : L2.St → Hp → Prop} (k : Q σ H) : gNil [] σ H Q := ⟨rfl, k⟩
theorem g_gcons {t : TG} {u : TGs} {v : V} {r : List V} {Q : L2.St → Hp → Prop} (k : t v σ H fun σ' H' => u r σ' H' Q) : gCons t u (v :: r) σ H Q := ⟨v, r, rfl, k⟩
end
end RC
namespace RC
open PySem PySem.Spec PyProof.Rows L2
/-- a comprehension, by a word of the turn and the heap -/
theorem lc_X {H : Hp} {σ : L2.St} {Q : VK} {te : TE} {tt : TT} {g : TG} {vs : List Nat} {J : It} {n : Nat} {G : Hp → Prop} {Y : Nat → Hp → V → Hp → Prop} (w : Walk J n G Y) (Pv : Addr → Nat → Hp → Prop) (h0 : ∀ E, H E = none → Pv E 0 (upd H E (.lst [])))
    (hG : ∀ E i H, i ≤ n → Pv E i H → G H)
    (hs : ∀ E i x H H', i < n → Pv E i H → Y i H x H' → g x (wipe σ vs) H' fun σ2 H2 => wipe σ2 vs = wipe σ vs ∧ tt σ2 H2 fun b H3 => if b = true then te σ2 H3 (LcK (Pv E (i + 1)) E) else Pv E (i + 1) H3)
    (hd : ∀ E H, Pv E n H → Q (.ref E) H) : LcW J g tt te vs σ Q H := by
  intro E hE
  exact lc_it w (Pv E) (h0 E hE) (hG E) (hs E) (hd E)
end RC
namespace RC
open PySem PySem.Spec PyProof.Rows L2
section
variable {K : PySem.W.Frag} {σ : L2.St} {H : Hp} {Q : VK} {D : Ends} {Rs : List Res}
theorem v_pow {i j : Int} (h : 0 ≤ j ∧ j ≤ 1000000 ∧ i.natAbs < 2 ^ 64) (k : Q (.int (i ^ j.toNat)) H) : uPow (.int i) (.int j) H Q := ⟨i, j, rfl, rfl, h, k⟩
theorem v_rep {p : Addr} {xs : List V} {n : Int} (S : M Rs H) (h : H p = some (.lst xs)) (h1 : 0 ≤ n ∧ n < 1000) (h2 : xs.length * n.toNat ≤ 100000) (k : ∀ l H', M (pt l (.lst (List.replicate n.toNat xs).flatten) :: Rs) H' → Q (.ref l) H') : uMul (.ref p) (.int n) H Q :=
  .inr (.inr (.inl ⟨p, n, xs, rfl, rfl, h, by omega, by omega, Nat.le_trans h2 (by decide), fun l hl => k l _ (S.new hl)⟩))
/-- a while, by a word and a measure of the slots and the heap; the test is read for each turn -/
def WhW (c : TT) (tb : TS) (D : Ends) (σ : L2.St) (H : Hp) : Prop := ∃ W : Nat → L2.St → Hp → Prop, (∃ m, W m σ H) ∧ ∀ m σ H, W m σ H →
  c σ H fun b H1 => if b = true then ∃ N : L2.St → Hp → Prop, (∀ σ' H', N σ' H' → ∃ m', m' < m ∧ W m' σ' H') ∧ tb { D with nx := N, ct := N, bk := D.nx } σ H1 else D.nx σ H1
theorem g_while {c : TT} {tb : TS} (k : WhW c tb D σ H) : tWhile c tb D σ H := k
/-- N of a turn: W at some lesser measure -/
def WhN (W : Nat → L2.St → Hp → Prop) (m : Nat) : L2.St → Hp → Prop := fun σ H => ∃ m', m' < m ∧ W m' σ H
theorem wh_I {c : TT} {tb : TS} (W : Nat → L2.St → Hp → Prop) (m : Nat) (h0 : W m σ H)
    (hs : ∀ m σ H, W m σ H → c σ H fun b H1 => if b = true then ∃ N : L2.St → Hp → Prop, (∀ σ' H', N σ' H' → ∃ m', m' < m ∧ W m' σ' H') ∧ tb { D with nx := N, ct := N, bk := D.nx } σ H1 else D.nx σ H1) : WhW c tb D σ H := ⟨W, ⟨m, h0⟩, hs⟩
theorem wh_N {tb : TS} {m : Nat} {W : Nat → L2.St → Hp → Prop} {H1 : Hp} (k : tb { D with nx := WhN W m, ct := WhN W m, bk := D.nx } σ H1) : ∃ N : L2.St → Hp → Prop, (∀ σ' H', N σ' H' → ∃ m', m' < m ∧ W m' σ' H') ∧ tb { D with nx := N, ct := N, bk := D.nx } σ H1 := ⟨WhN W m, fun _ _ h => h, k⟩
end
end RC

namespace RC
open PySem PySem.Spec PyProof.Rows L2
/-! ### calls whose exceptions are wished for at the caller's slots -/
theorem pas0 {X : Cx} {σ : L2.St} {E : XK} : PassesAt CX0 X σ E := fun _ _ _ _ _ _ z => z.elim
section
variable {X : Cx} {g : Bool} {CX : CXT} {k n : Nat} {f C : Addr} {fd : FuncData} {ps ps' ks : List Str} {sp : Sp} {ds : List Value} {dvs : List V} {W : WX} {x m : Str} {p pos apos : Pos} {e o : Expr} {es : List Expr} {ta : TE} {t : TA}
theorem ended {pins : List (Addr × Obj)} {σ : L2.St} {H : Hp} {s : Shared} {Q : VK} {E : XK} {c : Code} (I : Inv X pins σ H s) (hx : PassesAt CX X σ E) (h : codeAny (model X.prog X.w) X.A c (CR CX X.stack X.prog X.w H s Q E) s) :
    codeAny (model X.prog X.w) X.A c (fun r s' => match r with | .ok (.ret u) => EP X pins σ Q u s' | .ok _ => False | .error u => X.xe u s') s := by
  refine codeAny_mono h fun res s' hq => ?_
  match res, hq with
  | .error u, hq => exact hx pins H s u s' I hq
  | .ok (.ret u), hq => exact I.after hq
  | .ok .next, hq => cases hq
  | .ok .brk, hq => cases hq
  | .ok .cont, hq => cases hq
theorem runW {pins : List (Addr × Obj)} {σ : L2.St} {H : Hp} {s : Shared} {Q : VK} {E : XK} {us : List Value} {vs : List V} (F : FnX g X.prog X.w X.K X.mg X.base CX k f fd ps sp) (hg : g = true → X.A.guards = some []) (hr : Room k X.A)
    (hb : Binds X.K fd ps ds) (hd : Vals dvs ds) (hx : PassesAt CX X σ E) (I : Inv X pins σ H s) (r : Vals vs us) (h : sp (vs ++ dvs) H Q E) :
    wpAny (model X.prog X.w) X.A (call (.ref f) us) (EP X pins σ Q) X.xe s := by
  have rr : Vals (vs ++ dvs) (us ++ ds) := r.append hd
  have ll : (us ++ ds).length = ps.length := rr.length.symm.trans (F.lenG _ _ _ _ h)
  have go := ended I hx (F.runG X.A X.stack s H ⟨us, []⟩ _ (us ++ ds) (vs ++ dvs) Q E hg hr I.env0 (hb s us I.kIn ll) (.refl _) rr h)
  refine wpAny_call (codeAny_mono go fun res s' hq => ?_)
  match res, hq with
  | .error _, hq => exact hq
  | .ok (.ret _), hq => exact hq
def tCallW (W : WX) (sp : Sp) (dvs : List V) (t : TA) : TE := fun σ H Q => t σ H fun vs H1 => sp (vs ++ dvs) H1 Q (WE W σ)
theorem pe_callW (F : FnX g X.prog X.w X.K X.mg X.base CX k f fd ps sp) (hgu : g = true → X.A.guards = some []) (hr : Room k X.A) (hg : Gl X x) (hm : X.mg x = some (.ref f))
    (hk : PySem.W.keepIn X.K (.ref f) = true) (hb : Binds X.K fd ps ds) (hd : Vals dvs ds) (hx : ∀ σ, PassesAt CX X σ (WE W σ))
    (ha : PA X (e :: es) t) (hdb : (x == ("__debug__" : Str)) = false := by decide) (he : starEach (e :: es) X.env = (false, eval e X.env) :: starEach es X.env := by rfl)
    (hpl : (backTo pos (starEach es X.env)).any (·.1) = false := by rfl) : PE X (.Call (.Name x p) (e :: es) [] pos) (tCallW W sp dvs t) := by
  constructor
  intro pins s σ H Q I h
  refine wpAny_Call_Name_kw (ld_glob I hg hm ?_ hdb)
  have body := thn (ha.run pos pins s σ H _ I h) (Q' := fun us s1 => X.K.In s1.heap ∧ wpAny (model X.prog X.w) X.A (call (.ref f) us) (EP X pins σ Q) X.xe s1)
    fun us s1 ⟨vs, H1, I1, r1, q1⟩ => ⟨I1.kIn, runW F hgu hr hb hd (hx σ) I1 r1 q1⟩
  exact PySem.W.callWith_K (h₀ := X.base) I.ok.mod.kin hk body he hpl
/-- o.m(e, ..) -/
def tMethW (W : WX) (C : Addr) (m : Str) (sp : Sp) (dvs : List V) (ta : TE) (t : TA) : TE := fun σ H Q => ta σ H fun x H1 => ∃ a dx fs, x = .ref a ∧ H1 a = some (.ins C dx fs) ∧ fs.lookup m = none ∧ t σ H1 fun vs H2 => sp (x :: (vs ++ dvs)) H2 Q (WE W σ)
theorem pe_methW {pl : Sem Bool} (he : PE X o ta) (c : Cls X.K C) (hm : Meth X.K C m f) (F : FnX g X.prog X.w X.K X.mg X.base CX k f fd ps sp) (hgu : g = true → X.A.guards = some []) (hr : Room k X.A) (hb : Binds X.K fd ps ds) (hd : Vals dvs ds)
    (hx : ∀ σ, PassesAt CX X σ (WE W σ)) (ha : PA X (e :: es) t) (hst : starEach (e :: es) X.env = (false, eval e X.env) :: starEach es X.env := by rfl) (hpl : (backTo pos (starEach es X.env)).any (·.1) = false := by rfl)
    (ht : eval (.Call (.Attribute o m apos) (e :: es) [] pos) X.env = (do
      let ov ← eval o X.env
      standAt apos.atName
      let (f, first) ← holding [ov] (getMethod ov m pl)
      callWith pos f first (backTo pos (starEach (e :: es) X.env)) (backToKw pos (keywordEach [] X.env))) := by rfl) : PE X (.Call (.Attribute o m apos) (e :: es) [] pos) (tMethW W C m sp dvs ta t) := by
  constructor
  intro pins s σ H Q I h
  refine PySem.W.methodCall_KW (pl := pl) (thn (he.run pins s σ H _ I h) ?_) ht
  rintro u s1 ⟨x, H1, I1, rx, a, dx, fs, rfl, ea, hl, q⟩
  cases (show u = Value.ref a from rx)
  refine getmeth_ok I1 ea c hm hl ?_
  refine PySem.W.callWith_K (first := [.ref a]) (h₀ := X.base) I.ok.mod.kin hm.kp (thn (ha.run pos pins s1 σ H1 _ I1 q) ?_) hst hpl
  rintro us s2 ⟨vs, H2, I2, r, q2⟩
  exact ⟨I2.kIn, runW (us := .ref a :: us) (vs := .ref a :: vs) F hgu hr hb hd (hx σ) I2 (.cons rfl r) q2⟩
theorem pe_methW0 {pl : Sem Bool} (he : PE X o ta) (c : Cls X.K C) (hm : Meth X.K C m f) (F : FnX g X.prog X.w X.K X.mg X.base CX k f fd ps sp) (hgu : g = true → X.A.guards = some []) (hr : Room k X.A) (hb : Binds X.K fd ps ds) (hd : Vals dvs ds)
    (hx : ∀ σ, PassesAt CX X σ (WE W σ))
    (ht : eval (.Call (.Attribute o m apos) [] [] pos) X.env = (do
      let ov ← eval o X.env
      standAt apos.atName
      let (f, first) ← holding [ov] (getMethod ov m pl)
      callWith pos f first (backTo pos (starEach [] X.env)) (backToKw pos (keywordEach [] X.env))) := by rfl) : PE X (.Call (.Attribute o m apos) [] [] pos) (tMethW W C m sp dvs ta tNil) := by
  constructor
  intro pins s σ H Q I h
  refine PySem.W.methodCall_KW (pl := pl) (thn (he.run pins s σ H _ I h) ?_) ht
  rintro u s1 ⟨x, H1, I1, rx, a, dx, fs, rfl, ea, hl, q⟩
  cases (show u = Value.ref a from rx)
  exact getmeth_ok I1 ea c hm hl (PySem.W.callWith_K0 (first := [.ref a]) I1.kIn hm.kp (runW (us := [.ref a]) (vs := [.ref a]) F hgu hr hb hd (hx σ) I1 (.cons rfl .nil) q))
/-- C(e, ..) -/
def tMakeW (W : WX) (C : Addr) (sp : Sp) (dvs : List V) (t : TA) : TE := fun σ H Q => t σ H fun vs H1 => ∀ x dx, H1 x = none → H1 dx = none → dx ≠ x →
  sp (.ref x :: (vs ++ dvs)) (upd (upd H1 dx (.own x)) x (.ins C dx [])) (fun v H2 => v = .non ∧ Q (.ref x) H2) (WE W σ)
theorem runMk {pins : List (Addr × Obj)} {σ : L2.St} {H : Hp} {s : Shared} {Q : VK} {E : XK} {us : List Value} {vs : List V} (M : Mk X.K C f) (F : FnX g X.prog X.w X.K X.mg X.base CX k f fd ps sp) (hgu : g = true → ((X.A.under (.builtin "type.__call__" ⟨.ref C :: us, []⟩)).guards = some []))
    (hr : Room (k + 1) X.A) (hb : Binds X.K fd ps ds) (hd : Vals dvs ds) (hx : PassesAt CX X σ E) (I : Inv X pins σ H s) (r : Vals vs us)
    (h : ∀ x dx, H x = none → H dx = none → dx ≠ x → sp (.ref x :: (vs ++ dvs)) (upd (upd H dx (.own x)) x (.ins C dx [])) (fun v H2 => v = .non ∧ Q (.ref x) H2) E) :
    wpAny (model X.prog X.w) X.A (call (.ref C) us) (EP X pins σ Q) X.xe s := by
  have hq := h (s.heap.objs.size + 1) s.heap.objs.size (I.hok.fresh (Nat.le_succ _)) (I.hok.fresh (Nat.le_refl _)) (Nat.ne_of_lt (Nat.lt_succ_self _))
  have I2 := Inv.made (C := C) I
  have r2 : Vals (V.ref (s.heap.objs.size + 1) :: (vs ++ dvs)) (Value.ref (s.heap.objs.size + 1) :: (us ++ ds)) := .cons rfl (r.append hd)
  have hl : (Value.ref (s.heap.objs.size + 1) :: us ++ ds).length = ps.length := r2.length.symm.trans (F.lenG _ _ _ _ hq)
  have go := F.runG (X.A.under (.builtin "type.__call__" ⟨.ref C :: us, []⟩)) X.stack _ _ ⟨Value.ref (s.heap.objs.size + 1) :: us, []⟩ _ (Value.ref (s.heap.objs.size + 1) :: (us ++ ds)) _ _ E hgu (hr.make C us []) (I2.env0.make C us [])
    (hb _ (Value.ref (s.heap.objs.size + 1) :: us) I2.kIn hl) (.refl _) r2 hq
  refine wpAny_call (make_map (f := f) I.kIn M.makes M.init (beq_iff_eq.mp M.fn) (codeAny_mono go fun res s' hq' => ?_))
  match res, hq' with
  | .error u, hq' => exact hx pins _ _ u s' I2 hq'
  | .ok (.ret u), hq' =>
    obtain ⟨v, H', I3, rv, ev, q3⟩ := I2.after hq'
    subst ev
    exact ⟨rv, ⟨V.ref (s.heap.objs.size + 1), H', I3, rfl, q3⟩⟩
  | .ok .next, hq' => cases hq'
  | .ok .brk, hq' => cases hq'
  | .ok .cont, hq' => cases hq'
theorem pe_makeW (M : Mk X.K C f) (F : FnX false X.prog X.w X.K X.mg X.base CX k f fd ps sp) (hr : Room (k + 1) X.A) (hg : Gl X x) (hm : X.mg x = some (.ref C)) (hb : Binds X.K fd ps ds) (hd : Vals dvs ds) (hx : ∀ σ, PassesAt CX X σ (WE W σ))
    (ha : PA X (e :: es) t) (hdb : (x == ("__debug__" : Str)) = false := by decide) (he : starEach (e :: es) X.env = (false, eval e X.env) :: starEach es X.env := by rfl) (hpl : (backTo pos (starEach es X.env)).any (·.1) = false := by rfl) :
    PE X (.Call (.Name x p) (e :: es) [] pos) (tMakeW W C sp dvs t) := by
  constructor
  intro pins s σ H Q I h
  refine wpAny_Call_Name_kw (ld_glob I hg hm ?_ hdb)
  have body := thn (ha.run pos pins s σ H _ I h) (Q' := fun us s1 => X.K.In s1.heap ∧ wpAny (model X.prog X.w) X.A (call (.ref C) us) (EP X pins σ Q) X.xe s1)
    fun us s1 ⟨vs, H1, I1, r1, q1⟩ => ⟨I1.kIn, runMk M F (fun z => nomatch z) hr hb hd (hx σ) I1 r1 q1⟩
  exact PySem.W.callWith_K (h₀ := X.base) I.ok.mod.kin M.kp body he hpl
theorem pe_makeW0 (M : Mk X.K C f) (F : FnX false X.prog X.w X.K X.mg X.base CX k f fd ps sp) (hr : Room (k + 1) X.A) (hg : Gl X x) (hm : X.mg x = some (.ref C)) (hb : Binds X.K fd ps ds) (hd : Vals dvs ds) (hx : ∀ σ, PassesAt CX X σ (WE W σ))
    (hdb : (x == ("__debug__" : Str)) = false := by decide) : PE X (.Call (.Name x p) [] [] pos) (tMakeW W C sp dvs tNil) := by
  constructor
  intro pins s σ H Q I h
  refine wpAny_Call_Name_kw (ld_glob I hg hm ?_ hdb)
  exact PySem.W.callWith_K0 I.kIn M.kp (runMk (us := []) M F (fun z => nomatch z) hr hb hd (hx σ) I .nil h)
end
end RC

namespace RC
open PySem PySem.Spec PyProof.Rows L2
/-! ### own exception classes over any built-in one -/
structure XcB (K : PySem.W.Frag) (C : Addr) (B newId initId : String) (bmB : List Value) : Prop where
  fb : ExcBaseFacts B newId initId bmB
  sf : StoreFacts B bmB "object.__setattr__" "object"
  ini : PySem.W.excInitIn K C bmB newId = true
  ovr : PySem.W.excOver K C bmB = true
  hd : PySem.W.hasDictIn K C = true
  sa : PySem.W.findIn K (.ref C) "__setattr__" = some (some (.builtin "object.__setattr__"))
  exC : PySem.W.subIn K (.ref C) (.type "BaseException") = some true
  tyC : PySem.W.typeIn K (.ref C) = some (.type "type")
  kC : PySem.W.keepIn K (.ref C) = true
theorem upd_self {H : Hp} {a : Addr} {o : HO} (e : H a = some o) : upd H a o = H := by
  funext b
  by_cases hb : b = a
  · rw [hb, upd_same, e]
  · rw [upd_ne hb]
section
variable {X : Cx} {pins : List (Addr × Obj)} {σ : L2.St} {H : Hp} {s : Shared} {a C : Addr} {f : Str} {y : V} {u : Value} {A : Around} {E : Value → Shared → Prop} {B newId initId : String} {bmB : List Value}
theorem x_set {Q : Unit → Shared → Prop} (T : XcB X.K C B newId initId bmB) (I : Inv X pins σ H s) (e : H a = some (exo a C none)) (hno : PySem.W.findIn X.K (.ref C) f = some none) (ry : RelV y u)
    (h : ∀ dx s', H dx = none → dx ≠ a → Inv X pins σ (upd (upd H dx (exd dx [(f, y)])) a (exo a C (some dx))) s' → Q () s') : wpAny (model X.prog X.w) A (setAttr (.ref a) f u) Q E s := by
  obtain ⟨t1, ho⟩ := exo_at I.hok e
  obtain ⟨hp, g, d, t, os⟩ := s
  have ho2 : hp.get? a = some (PySem.W.excObj C t1 none .none) := ho
  obtain ⟨cd, hc, hcd⟩ := PySem.W.any_some T.hd
  refine PySem.W.set_plain I.kIn (ox := PySem.W.excObj C t1 none .none) (od := none) ⟨ho2, rfl, rfl, trivial⟩ T.sa ?_
  refine PySem.W.osa_openX (od := none) T.sf I.kIn ⟨ho2, rfl, rfl, trivial⟩ T.ovr (NoAttr.taker hno) fun b => ?_
  refine wpAny_bind (wpAny_pure (wpAny_bind (PySem.W.instanceDict_exc ho2 (PySem.W.looks_clsIn I.kIn hc) hcd ?_)))
  have hxs : a ≠ hp.objs.size := Nat.ne_of_lt (Heap.lt_size ho)
  refine HandSPX.store_in_new ?_ ?_
  · exact ⟨_, #[], _, (Heap.get?_update_ne _ _ _ _ hxs.symm).trans (Heap.get?_push_at rfl rfl), rfl, fun e he => absurd he (by simp), fun _ => rfl⟩
  intro h' tk' hn hs
  have hx1 : (hp.push (PySem.W.dictOf [] 0)).get? a = some (PySem.W.excObj C t1 none .none) := Heap.get?_push_of_some _ ho2
  have kp : ∀ b o, b ≠ a → hp.get? b = some o → h'.get? b = some o := fun b o hb q =>
    (hs.2 b (Nat.ne_of_lt (Heap.lt_size q))).trans ((Heap.get?_update_ne _ _ _ _ hb).trans (Heap.get?_push_of_some _ q))
  have hx : h'.get? a = some ({ cls := .ref C, dict := some hp.objs.size, data := .fields #[.ref t1, .none, .none, .none, .bool false, .none] } : Obj) := (hs.2 a hxs).trans (Heap.get?_update_self _ hx1 rfl)
  have hnd : H hp.objs.size = none := I.hok.fresh (Nat.le_refl _)
  have nd : ∀ {b : Addr} {o : Obj}, hp.get? b = some o → b ≠ hp.objs.size := fun q => Nat.ne_of_lt (Heap.lt_size q)
  have na : ∀ {b : Addr}, H b = none → b ≠ a := fun n z => by
    rw [z, e] at n
    cases n
  have un : Un X.fs [] H (upd (upd H hp.objs.size (exd hp.objs.size [(f, y)])) a (exo a C (some hp.objs.size))) hp h' := by
    constructor
    · exact fun b o q n _ _ => kp b o (na n) q
    · exact fun b o q n _ _ => ⟨o.slots, kp b o (na n) q⟩
    · intro b o q n _
      rw [upd_ne (na n), upd_ne (nd q)]
      exact n
    · intro b o q _
      by_cases hb : b = a
      · subst hb
        exact ⟨_, hx⟩
      · exact ⟨o, kp b o hb q⟩
    · intro b xs q
      rw [upd_ne (at_ne e q exo_tup), upd_ne (ne_of_none q hnd)]
      exact q
    · intro b o v q
      rw [upd_ne (at_ne e q exo_frz), upd_ne (ne_of_none q hnd)]
      exact q
    · intro b ps q
      refine ⟨#[], ?_⟩
      rw [upd_ne (at_ne e q exo_tbl), upd_ne (ne_of_none q hnd), q]
      simp
  refine h hp.objs.size _ hnd hxs.symm (I.un (t' := tk') un fun b o q => ?_)
  by_cases hb : b = a
  · subst hb
    rw [upd_same] at q
    cases q
    exact exo_ok hx
  rw [upd_ne hb] at q
  by_cases hd : b = hp.objs.size
  · subst hd
    rw [upd_same] at q
    cases q
    exact exd_ok hn (relO_put (fs := []) ry fun g => True.intro)
  rw [upd_ne hd] at q
  refine (I.hok b o q).stay (fun c v hc z => kp c v ?_ z) (fun c hc => ?_) (fun c xs hc => ?_)
  · rcases hc with hc | hc
    · subst hc
      exact hb
    · exact at_ne e hc exo_own
  · rw [upd_ne (at_ne e hc exo_own), upd_ne (ne_of_none hc hnd)]
    exact hc
  · rw [upd_ne (at_ne e hc exo_tup), upd_ne (ne_of_none hc hnd)]
    exact hc
theorem x_init {us : List Value} {Q : Value → Shared → Prop} (T : XcB X.K C B newId initId bmB) (I : Inv X pins σ H s) (e : H a = some (exo a C none)) (hl : us.length ≤ sizeLine) (h : ∀ s', Inv X pins σ H s' → Q .none s') :
    wpAny (model X.prog X.w) A (call (.builtin initId) (.ref a :: us)) Q E s := by
  obtain ⟨nm, N, qn, bs, bm, hdct, sn, sub, ab, col, dd, k0, k1, k2, k3, k5, hC, hT⟩ := PySem.W.excInit_of I.kIn T.ini
  obtain ⟨t1, ho⟩ := exo_at I.hok e
  obtain ⟨hp, g, d, t, os⟩ := s
  refine wpAny_call (HandSPX.init_base T.fb hT hC ho hl fun h' t2 k hx => ?_)
  have J := I.write (t' := t) (x := a) (e := a) (o := exo a C none) (by rw [e]; exact True.intro) (.inl rfl) k ⟨_, hx⟩ (exo_ok hx)
  rw [upd_self e] at J
  exact h _ J
end
/-- D.__init__(self, ..), D an own class over the built-in one -/
structure XcI (K : PySem.W.Frag) (D : Addr) (initId : String) : Prop where
  ga : PySem.W.specialIn K (.ref D) "__getattribute__" = some (some (.builtin "type.__getattribute__"))
  ty : PySem.W.typeIn K (.ref D) = some (.type "type")
  rd : PySem.W.readsIn K D (.type "type") = true
  fi : PySem.W.findCls K (.ref D) (.type "type") "__init__" = some (.val (.builtin initId))
def tXi (K : PySem.W.Frag) (initId : String) (ta : TA) : TE := fun σ H Q => ta σ H fun vs H1 => ∃ (a C : Addr) (ws : List V) (B newId : String) (bmB : List Value), vs = .ref a :: ws ∧ ws.length ≤ 1000 ∧ XcB K C B newId initId bmB ∧ H1 a = some (exo a C none) ∧ Q .non H1
def tXs (K : PySem.W.Frag) (f : Str) (to te : TE) : TS := fun D σ H => te σ H fun y H1 => to σ H1 fun x H2 => ∃ (a C : Addr) (B newId initId : String) (bmB : List Value), x = .ref a ∧ XcB K C B newId initId bmB ∧ PySem.W.findIn K (.ref C) f = some none ∧
  H2 a = some (exo a C none) ∧ ∀ dx, H2 dx = none → dx ≠ a → D.nx σ (upd (upd H2 dx (exd dx [(f, y)])) a (exo a C (some dx)))
def tXm (C : Addr) (sp : Sp) (ta : TA) : L2.St → Hp → XK → Prop := fun σ H Q => ta σ H fun vs H1 => vs.length ≤ 1000 ∧ ∀ a, H1 a = none → sp (.ref a :: vs) (upd H1 a (exo a C none))
  (fun v H2 => v = .non ∧ ∃ (d : Addr) (fs : List (Str × V)), H2 a = some (exo a C (some d)) ∧ H2 d = some (exd d fs) ∧ H1 d = none ∧ Q (.ref C) (some d) (upd (del H2 a) d (.xd fs))) (fun _ _ _ => False)
section
variable {X : Cx} {o e : Expr} {es : List Expr} {to te : TE} {ta : TA} {f P : Str} {p p' p1 p2 pos : Pos} {C D : Addr} {initId : String}
theorem pe_xi {pl : Sem Bool} (hg : Gl X P) (hm : X.mg P = some (.ref D)) (T : XcI X.K D initId) (ha : PA X (e :: es) ta)
    (hc : eval (.Call (.Attribute (.Name P p1) "__init__" p2) (e :: es) [] pos) X.env = (do
      let ov ← eval (.Name P p1) X.env
      standAt p2.atName
      let (f, first) ← holding [ov] (getMethod ov "__init__" pl)
      callWith pos f first (backTo pos (starEach (e :: es) X.env)) (backToKw pos (keywordEach [] X.env))) := by rfl)
    (hh : PySem.W.handedIn (.builtin initId) = true := by decide +kernel) (hdb : (P == ("__debug__" : Str)) = false := by decide)
    (he : starEach (e :: es) X.env = (false, eval e X.env) :: starEach es X.env := by rfl) (hpl : (backTo pos (starEach es X.env)).any (·.1) = false := by rfl) :
    PE X (.Call (.Attribute (.Name P p1) "__init__" p2) (e :: es) [] pos) (tXi X.K initId ta) := by
  constructor
  intro pins s σ H Q I h
  refine PySem.W.methodCall_KW (ld_glob I hg hm ?_ hdb) hc
  obtain ⟨m, fr⟩ := I.fr
  refine PySem.W.method_of_cls fr I.ok.mod.kin T.ga (PySem.W.cls_val fr I.ok.mod.kin T.ty T.rd T.fi hh ?_)
  show wpAny _ _ (callWith pos (Value.builtin initId) [] (backTo pos (starEach (e :: es) X.env)) []) _ _ _
  refine PyProof.Rows.callWith_method1 (thn (ha.run pos pins _ σ H _ (I.tok _) h) ?_) he hpl
  rintro us s1 ⟨vs, H1, I1, r1, a, C, ws, B, newId, bmB, rfl, hl, T, ea, q⟩
  cases r1 with
  | @cons _ u0 _ ur ra rw' =>
    cases (show u0 = Value.ref a from ra)
    have hlen : ur.length ≤ sizeLine := by
      rw [← Paired.length rw', sizeLine_eq]
      omega
    exact x_init T I1 ea hlen fun s' J => ⟨.non, H1, J, rfl, q⟩
theorem ps_xs (ho : PE X o to) (he : PE X e te) (hs : swapsWith e (some (.Attribute o f p')) pos.line X.env = pure false := by rfl) : PS X (.Assign [.Attribute o f p'] e pos) (tXs X.K f to te) := by
  constructor
  intro pins s σ H D I h
  refine plainObj_wpAny_Assign_Attribute (thn (he.run pins s σ H _ I h) ?_) hs
  rintro v s1 ⟨y, H1, I1, r1, q1⟩
  refine thn (ho.run pins s1 σ H1 _ I1 q1) ?_
  rintro u s2 ⟨x, H2, I2, r2, a, C, B, newId, initId, bmB, rfl, T, hno, ea, q⟩
  cases (show u = Value.ref a from r2)
  exact x_set T I2 ea hno r1 fun dx s' n ne J => ⟨σ, _, J, q dx n ne⟩
theorem pmk_x {CX : CXT} {x : Str} {C fI : Addr} {k : Nat} {fd : FuncData} {ps : List Str} {sp : Sp} {B newId : String} {bmB : List Value} (T : XcB X.K C B newId initId bmB) (iC : PySem.W.findIn X.K (.ref C) "__init__" = some (some (.ref fI))) (tI : PySem.W.typeIn X.K (.ref fI) = some (.type "function"))
    (F : FnX false X.prog X.w X.K X.mg X.base CX k fI fd ps sp) (hr : Room (k + 1) X.A) (hb : Binds X.K fd ps []) (hx : Passes CX X (fun _ _ _ => False)) (hg : Gl X x) (hm : X.mg x = some (.ref C)) (ha : PA X (e :: es) ta)
    (hdb : (x == ("__debug__" : Str)) = false := by decide) (he : starEach (e :: es) X.env = (false, eval e X.env) :: starEach es X.env := by rfl) (hpl : (backTo pos (starEach es X.env)).any (·.1) = false := by rfl) :
    PMk X (.Call (.Name x p) (e :: es) [] pos) (tXm C sp ta) := by
  intro pins s σ H Q I h
  refine wpAny_Call_Name_kw (ld_glob I hg hm ?_ hdb)
  refine PySem.W.callWith_K (h₀ := X.base) I.ok.mod.kin T.kC (thn (ha.run pos pins s σ H _ I h) ?_) he hpl
  rintro us s1 ⟨vs, H1, I1, r1, hz, q1⟩
  refine ⟨I1.kIn, ?_⟩
  show wpAny _ _ (call (.ref C) us) _ _ _
  obtain ⟨nm, N, qn, bs, bm, hdct, sn, sub, ab, col, dd, k0, k1, k2, k3, k5, hC, hT⟩ := PySem.W.excInit_of I1.kIn T.ini
  obtain ⟨hp, g, dr, tk, os⟩ := s1
  have hsz : hp.objs.size ≤ hp.objs.size + 1 := Nat.le_succ _
  have hq := q1 (hp.objs.size + 1) (I1.hok.fresh hsz)
  have kk : ∀ b o, hp.get? b = some o → ((hp.push (PySem.W.kdv_tup us)).push (HandSPX.excO C hp.objs.size)).get? b = some o := fun b o z => Heap.get?_push_of_some _ (Heap.get?_push_of_some _ z)
  have hget : ((hp.push (PySem.W.kdv_tup us)).push (HandSPX.excO C hp.objs.size)).get? (hp.objs.size + 1) = some (HandSPX.excO C hp.objs.size) := by heap_get
  have I2 := I1.laid (t' := tk) (a := hp.objs.size + 1) (o := exo (hp.objs.size + 1) C none) (h' := (hp.push (PySem.W.kdv_tup us)).push (HandSPX.excO C hp.objs.size)) kk hsz (exo_ok hget)
  have r2 : Vals (V.ref (hp.objs.size + 1) :: vs) (Value.ref (hp.objs.size + 1) :: us) := .cons rfl r1
  have hl : (Value.ref (hp.objs.size + 1) :: us ++ []).length = ps.length := by
    rw [List.append_nil]
    exact r2.length.symm.trans (F.lenG _ _ _ _ hq)
  have hus : us.length ≤ sizeLine := by
    rw [← Paired.length r1, sizeLine_eq]
    omega
  have hb2 := hb ⟨(hp.push (PySem.W.kdv_tup us)).push (HandSPX.excO C hp.objs.size), g, dr, tk, os⟩ (Value.ref (hp.objs.size + 1) :: us) I2.kIn hl
  rw [List.append_nil] at hb2
  have go := F.runG (X.A.under (.builtin "type.__call__" ⟨.ref C :: us, []⟩)) X.stack _ _ ⟨Value.ref (hp.objs.size + 1) :: us, []⟩ _ (Value.ref (hp.objs.size + 1) :: us) _ _ (fun _ _ _ => False) (fun z => nomatch z) (hr.make C us []) (I2.env0.make C us []) hb2 (.refl _) r2 hq
  refine wpAny_call (HandSPX.call_own T.fb hT hC (PySem.W.looks_findIn I1.kIn iC) (fun self => PySem.W.bind_fn I1.kIn self tI) hus (codeAny_mono go fun r s' hq' => ?_))
  match r, hq' with
  | .error er, hq' => exact hx pins σ _ _ er s' I2 hq'
  | .ok (.ret u), hq' =>
    obtain ⟨v, H2, os2, bare2, un2, hok2, rv, rfl, d, fs, ea, ed, hd1, q2⟩ := hq'
    obtain ⟨h2, g2, d2, t2, os'⟩ := s'
    exact ⟨rv, mk_end (raises_own T.exC T.tyC) I1 hsz kk un2 hok2 os2 bare2 ea ed hd1 q2⟩
  | .ok .next, hq' => cases hq'
  | .ok .brk, hq' => cases hq'
  | .ok .cont, hq' => cases hq'
end
end RC

namespace RC
open PySem PySem.Spec PyProof.Rows L2
/-! ### raise X(e) -/
def spX (C : Addr) (f : Str) : Sp := fun vs H Q _ => ∃ (a : Addr) (v : V), vs = [.ref a, v] ∧ H a = some (exo a C none) ∧ ∀ dx, H dx = none → dx ≠ a → Q .non (upd (upd H dx (exd dx [(f, v)])) a (exo a C (some dx)))
theorem lenX {C : Addr} {f : Str} (vs : List V) (H : Hp) (Q : VK) (E : XK) (h : spX C f vs H Q E) : vs.length = 2 := by
  obtain ⟨a, v, rfl, _⟩ := h
  rfl
def tXz (C : Addr) (f : Str) (te : TE) : L2.St → Hp → XK → Prop := fun σ H Q => te σ H fun v H1 => ∀ d, H1 d = none → Q (.ref C) (some d) (upd H1 d (.xd [(f, v)]))
theorem PE.wk {X : Cx} {e : Expr} {te : TE} (h : PE X e te) : PE X e (fun σ H Q => ∃ R : VK, te σ H R ∧ ∀ v H1, R v H1 → Q v H1) :=
  ⟨fun pins s σ H _ I ⟨R, h1, h2⟩ => thn (h.run pins s σ H R I h1) fun _ _ ⟨v, H1, I1, r, q⟩ => ⟨v, H1, I1, r, h2 v H1 q⟩⟩
theorem pmk_xz {X : Cx} {CX : CXT} {x f : Str} {C fI : Addr} {k : Nat} {fd : FuncData} {ps : List Str} {B newId initId : String} {bmB : List Value} {e : Expr} {te : TE} {p pos : Pos} (T : XcB X.K C B newId initId bmB) (iC : PySem.W.findIn X.K (.ref C) "__init__" = some (some (.ref fI)))
    (tI : PySem.W.typeIn X.K (.ref fI) = some (.type "function")) (F : FnX false X.prog X.w X.K X.mg X.base CX k fI fd ps (spX C f)) (hr : Room (k + 1) X.A) (hb : Binds X.K fd ps []) (hx : Passes CX X (fun _ _ _ => False)) (hg : Gl X x) (hm : X.mg x = some (.ref C)) (ha : PE X e te)
    (hdb : (x == ("__debug__" : Str)) = false := by decide) (he : starEach [e] X.env = (false, eval e X.env) :: starEach [] X.env := by rfl) :
    PMk X (.Call (.Name x p) [e] [] pos) (tXz C f te) := by
  have key : ∀ (Q : XK) (v : V) (H1 : Hp), (∀ d, H1 d = none → Q (.ref C) (some d) (upd H1 d (.xd [(f, v)]))) → [v].length ≤ 1000 ∧ ∀ a, H1 a = none → spX C f (.ref a :: [v]) (upd H1 a (exo a C none))
      (fun v H2 => v = .non ∧ ∃ (d : Addr) (fs : List (Str × V)), H2 a = some (exo a C (some d)) ∧ H2 d = some (exd d fs) ∧ H1 d = none ∧ Q (.ref C) (some d) (upd (del H2 a) d (.xd fs))) (fun _ _ _ => False) := by
    intro Q v H1 q
    refine ⟨by simp, fun a na => ⟨a, v, rfl, upd_same, fun dx hdx hne => ⟨rfl, dx, [(f, v)], upd_same, ?_, ?_, ?_⟩⟩⟩
    · rw [upd_ne hne, upd_same]
    · rw [upd_ne hne] at hdx
      exact hdx
    · have e1 : upd (del (upd (upd (upd H1 a (exo a C none)) dx (exd dx [(f, v)])) a (exo a C (some dx))) a) dx (.xd [(f, v)]) = upd H1 dx (.xd [(f, v)]) := by
        funext b
        by_cases hb : b = dx
        · subst hb
          rw [upd_same, upd_same]
        · rw [upd_ne hb, upd_ne hb]
          by_cases hba : b = a
          · subst hba
            rw [del_same, na]
          · rw [del_ne hba, upd_ne hba, upd_ne hb, upd_ne hba]
      rw [e1]
      rw [upd_ne hne] at hdx
      exact q dx hdx
  intro pins s σ H Q I h
  have hp := pa_cons (PE.wk ha) (pa_nil (X := X)) he
  exact pmk_x (p := p) (pos := pos) T iC tI F hr hb hx hg hm hp hdb he rfl pins s σ H Q I ⟨_, h, fun v H1 q => key Q v H1 q⟩
/-- raise X(e) -/
def tRz (W : WX) (C : Addr) (f : Str) (te : TE) : TS := fun _ σ H => te σ H fun v H1 => ∀ d, H1 d = none → W (.ref C) (some d) σ (upd H1 d (.xd [(f, v)]))
theorem ps_rz {X : Cx} {W : WX} {CX : CXT} {x f : Str} {C fI : Addr} {k : Nat} {fd : FuncData} {ps : List Str} {B newId initId : String} {bmB : List Value} {e : Expr} {te : TE} {p pos pos' : Pos} (hc : X.calm = true) (tk : Takes X W) (T : XcB X.K C B newId initId bmB)
    (iC : PySem.W.findIn X.K (.ref C) "__init__" = some (some (.ref fI))) (tI : PySem.W.typeIn X.K (.ref fI) = some (.type "function")) (F : FnX false X.prog X.w X.K X.mg X.base CX k fI fd ps (spX C f)) (hr : Room (k + 1) X.A) (hb : Binds X.K fd ps []) (hx : Passes CX X (fun _ _ _ => False))
    (hg : Gl X x) (hm : X.mg x = some (.ref C)) (ha : PE X e te) (hdb : (x == ("__debug__" : Str)) = false := by decide) (he : starEach [e] X.env = (false, eval e X.env) :: starEach [] X.env := by rfl) :
    PS X (.Raise (some (.Call (.Name x p) [e] [] pos)) none pos') (tRz W C f te) := ps_raise hc tk (pmk_xz T iC tI F hr hb hx hg hm ha hdb he)
/-- the reading of such an __init__ -/
theorem pureX {K : PySem.W.Frag} {C : Addr} {f msg : Str} {B newId initId : String} {bmB : List Value} {N : List Str} (hN : start N [] = [none, none]) (T : XcB K C B newId initId bmB) (hno : PySem.W.findIn K (.ref C) f = some none) (vs : List V) (H : Hp) (Q : VK) (E : XK) (h : spX C f vs H Q E) :
    tSeq (tDrop (tXi K initId (tCons (tVar 0) (tCons (tC (.str msg)) tNil)))) (tXs K f (tVar 0) (tVar 1)) { nx := fun _ H' => Q .non H', rt := Q } (start N vs) H := by
  obtain ⟨a, v, rfl, ha, q⟩ := h
  have e : start N [V.ref a, v] = [some (V.ref a), some v] := by
    have l : N.length = 2 := by
      have := congrArg List.length hN
      simpa [L2.start] using this
    simp [L2.start, l]
  rw [e]
  exact ⟨_, rfl, a, C, [.str msg], B, newId, bmB, rfl, by simp, T, ha, v, rfl, _, rfl, a, C, B, newId, initId, bmB, rfl, T, hno, ha, q⟩

/-! ### try: body, except clauses of any form -/
/-- a clause's test: evaluated in the suite's context it tells whether the exception is of one of the classes cs -/
def TestOk (X : Cx) (t : Expr) (cs : List Value) : Prop := ∀ (a : Addr) (oe : Obj) (pn pins : List (Addr × Obj)) (σ : L2.St) (H : Hp) (s : Shared) (cls : Value) (b : Bool) (Q : Bool → Shared → Prop) (E : Value → Shared → Prop),
  Inv (X.suite a ((a, oe) :: pn)) pins σ H s → PySem.W.Looks (model X.prog X.w) s.heap (typeOf (.ref a)) cls → PySem.W.exmAny X.K cls cs = some b →
    (∀ h', (∀ q o, s.heap.get? q = some o → h'.get? q = some o) → Q b { s with heap := h' }) →
      wpAny (model X.prog X.w) (X.A.mark (some (.ref a))) (eval t X.env) (fun c s1 => wpAny (model X.prog X.w) (X.A.mark (some (.ref a))) (excMatches (.ref a) c) Q E s1) E s
section
variable {X : Cx} {x1 x2 x3 : Str} {c1 c2 c3 : Value} {p1 p2 p3 tp : Pos} {kk : Nat}
theorem nameAt {a : Addr} {oe : Obj} {pn pins : List (Addr × Obj)} {σ : L2.St} {H : Hp} {s : Shared} {Q : Value → Shared → Prop} {E : Value → Shared → Prop} (hc : Names X x1 c1) (I : Inv (X.suite a ((a, oe) :: pn)) pins σ H s) (q : Q c1 s) :
    wpAny (model X.prog X.w) (X.A.mark (some (.ref a))) (eval (.Name x1 p1) X.env) Q E s := by
  obtain ⟨hg, hdbg, hm | ⟨hm, hv, hnn⟩⟩ := hc
  · exact ld_glob (X := X.suite a ((a, oe) :: pn)) I hg hm q hdbg
  · exact ld_blt (X := X.suite a ((a, oe) :: pn)) I hg hm hv q hnn hdbg
theorem test1 (hc : Names X x1 c1) : TestOk X (.Name x1 p1) [c1] := by
  intro a oe pn pins σ H s cls b Q E I LT he q
  obtain ⟨b1, d1, e1, e2, rfl⟩ := PySem.W.exmAny_cons he
  cases e2
  rw [Bool.or_false] at q
  exact nameAt hc I ((PySem.W.exm_one I.kIn LT e1).here (q s.heap fun _ _ z => z))
theorem test2 (h1 : Names X x1 c1) (h2 : Names X x2 c2) : TestOk X (.Tuple [.Name x1 p1, .Name x2 p2] kk tp) [c1, c2] := by
  intro a oe pn pins σ H s cls b Q E I LT he q
  refine wpAny_Tuple (wpAny_items_cons (nameAt h1 I ?_))
  refine wpAny_items_cons (nameAt h2 I (wpAny_items_nil ⟨by size_fits, ?_⟩))
  have kp : ∀ q o, s.heap.get? q = some o → (s.heap.push { cls := .type "tuple", data := .seq [c1, c2].toArray }).get? q = some o := fun _ _ z => Heap.get?_push_of_some _ z
  exact (PySem.W.exm_tup2 (I.kIn.keeps kp) (LT.keeps kp) (Heap.get?_push_size s.heap rfl) he).here (q _ kp)
theorem test3 (h1 : Names X x1 c1) (h2 : Names X x2 c2) (h3 : Names X x3 c3) : TestOk X (.Tuple [.Name x1 p1, .Name x2 p2, .Name x3 p3] kk tp) [c1, c2, c3] := by
  intro a oe pn pins σ H s cls b Q E I LT he q
  refine wpAny_Tuple (wpAny_items_cons (nameAt h1 I ?_))
  refine wpAny_items_cons (nameAt h2 I (wpAny_items_cons (nameAt h3 I (wpAny_items_nil ⟨by size_fits, ?_⟩))))
  have kp : ∀ q o, s.heap.get? q = some o → (s.heap.push { cls := .type "tuple", data := .seq [c1, c2, c3].toArray }).get? q = some o := fun _ _ z => Heap.get?_push_of_some _ z
  exact (PySem.W.exm_tup3 (I.kIn.keeps kp) (LT.keeps kp) (Heap.get?_push_size s.heap rfl) he).here (q _ kp)
end
/-- a clause: its classes, the slot of its name, its suite -/
structure Hd where
  cs : List Value
  sl : Option Nat
  ts : Addr → Value → Option Addr → TS
def Hd.put (σ : L2.St) (a : Addr) : Option Nat → L2.St
  | none => σ
  | some i => σ.set i (some (.ref a))
def Hd.ends (D : Ends) : Option Nat → Ends
  | none => D
  | some i => { nx := fun σ' H' => D.nx (σ'.set i none) H', rt := D.rt, bk := fun σ' H' => D.bk (σ'.set i none) H', ct := fun σ' H' => D.ct (σ'.set i none) H' }
def wTry (K : PySem.W.Frag) (W : WX) (D : Ends) : List Hd → WX
  | [] => W
  | h :: r => fun cls d σ H => ∃ b, PySem.W.exmAny K cls h.cs = some b ∧ (b = true → ∀ a, H a = none → h.ts a cls d (Hd.ends D h.sl) (Hd.put σ a h.sl) H) ∧ (b = false → wTry K W D r cls d σ H)
inductive HdOk (X : Cx) : List ExceptHandler → List Hd → Prop
  | nil : HdOk X [] []
  | plain {t : Expr} {cs : List Value} {ts : Addr → Value → Option Addr → TS} {b₀ : Stmt} {suite : List Stmt} {pos : Pos} {hds : List ExceptHandler} {l : List Hd} (ht : TestOk X t cs)
      (hsu : ∀ (a : Addr) (oe : Obj) (cls : Value) (d : Option Addr) (pn : List (Addr × Obj)), Zc cls d oe → (∃ vs, oe.data = .fields vs) → PSs (X.suite a ((a, oe) :: pn)) (b₀ :: suite) (ts a cls d)) (r : HdOk X hds l) :
      HdOk X (.ExceptHandler (some t) none (b₀ :: suite) pos :: hds) (⟨cs, none, ts⟩ :: l)
  | named {t : Expr} {cs : List Value} {n : Str} {i : Nat} {ts : Addr → Value → Option Addr → TS} {b₀ : Stmt} {suite : List Stmt} {pos : Pos} {hds : List ExceptHandler} {l : List Hd} (ht : TestOk X t cs) (hi : X.N[i]? = some n) (hln : X.env.kindOf n = some .local)
      (hsu : ∀ (a : Addr) (oe : Obj) (cls : Value) (d : Option Addr) (pn : List (Addr × Obj)), Zc cls d oe → (∃ vs, oe.data = .fields vs) → PSs (X.suite a ((a, oe) :: pn)) (b₀ :: suite) (ts a cls d)) (r : HdOk X hds l) :
      HdOk X (.ExceptHandler (some t) (some n) (b₀ :: suite) pos :: hds) (⟨cs, some i, ts⟩ :: l)
theorem flying_kept {B : Heap} {l : List Env} {a : Addr} {Z : Obj → Prop} {h h' : Heap} (fl : HandSPX.FlyingZ B l a Z h) (k : ∀ b o, h.get? b = some o → h'.get? b = some o) : HandSPX.FlyingZ B l a Z h' := by
  obtain ⟨f1, f2, f3, oe, vs, T, oT, ts, he, hz, hd, h1, hn, hne, hT, hdT, h3⟩ := fl
  exact ⟨fun b o q => k b o (f1 b o q), f2, f3.of_keeps fun b o q _ => ⟨o, k b o q, rfl⟩, oe, vs, T, oT, ts, k _ _ he, hz, hd, h1, hn, hne, k _ _ hT, hdT, h3⟩
section
variable {X : Cx} {body : List Stmt} {h₀ : ExceptHandler} {hds : List ExceptHandler} {l : List Hd} {pos : Pos} {tb : WX → TS} {W : WX}
theorem ps_tryG (hs : X.stack = X.env :: X.outer) (hf : X.env.frame = some X.env.locals) (hN : X.N.Nodup) (tk : Takes X W)
    (hb : ∀ (W' : WX) (pn : List (Addr × Obj)) (xe : Value → Shared → Prop), Takes (X.tr pn xe) W' → PassesOwn (model X.prog X.w) X.A X.env xe → PSs (X.tr pn xe) body (tb W'))
    (hh : HdOk X (h₀ :: hds) l) : PS X (.Try body (h₀ :: hds) [] [] pos) (fun D σ H => tb (wTry X.K W D l) D σ H) := by
  constructor
  intro pins s σ H D I h
  have ok := I.ok
  have hfr : X.A.frames = some (X.env :: X.outer) := ok.frames.trans (by rw [hs])
  refine wpAny_Try_except ?_
  let xe : Value → Shared → Prop := fun e s₁ => wpAny (model X.prog X.w) X.A (noteFrame e X.env) (fun _ s₂ => wpAny (model X.prog X.w) X.A (setFlight e none)
    (fun _ s₃ => wpAny (model X.prog X.w) X.A (handleBy e X.env (h₀ :: hds)) (SP X pins D) X.xe s₃) X.xe s₂) X.xe s₁
  have tkb : Takes (X.tr (X.pn ++ pins) xe) (wTry X.K W D l) := by
    rintro u s' ⟨a, B, sI, pins', σ', H', cls, d, rfl, J', nb, up, sky, na, os, ag, w⟩
    have J : Inv X pins σ' H' sI := J'.ofTry ok
    have sky' : Sky B (X.env :: X.outer) a (Zc cls d) X.env.locals s'.heap := hs ▸ sky
    show wpAny (model X.prog X.w) X.A (noteFrame (.ref a) X.env) _ _ _
    refine Sky.land Zc.steady hfr hf sky' fun h3 fl3 up3 => ?_
    have main : ∀ {hds' : List ExceptHandler} {l' : List Hd}, HdOk X hds' l' → wTry X.K W D l' cls d σ' H' → ∀ h3, HandSPX.FlyingZ B (X.env :: X.outer) a (Zc cls d) h3 → sI.heap.UpToSlots h3 →
        wpAny (model X.prog X.w) X.A (handleBy (.ref a) X.env hds') (SP X pins D) X.xe { s' with heap := h3 } := by
      intro hds' l' hk
      have place : ∀ {h3 : Heap}, HandSPX.FlyingZ B (X.env :: X.outer) a (Zc cls d) h3 → sI.heap.UpToSlots h3 →
          ∃ oe, Zc cls d oe ∧ (∃ vs, oe.data = .fields vs) ∧ Inv (X.suite a ((a, oe) :: (X.pn ++ pins))) [] σ' H' { s' with heap := h3 } ∧ PySem.W.Looks (model X.prog X.w) h3 (typeOf (.ref a)) cls := by
        intro h3 fl up
        have J3 : Inv X pins σ' H' { s' with heap := h3 } := J.landed nb fl.1 up os ag
        obtain ⟨oe, vs, he, hz, hd⟩ := fl.there
        have nfr : a ∉ frs (X.env :: X.outer) := fun hm => by
          obtain ⟨_, o', e', hnf⟩ := fl.2.2.1.mem hm
          rw [he] at e'
          cases e'
          exact hnf _ hd
        have nL : a ≠ X.env.locals := fun z => nfr (List.mem_filterMap.mpr ⟨X.env, List.mem_cons_self, by rw [hf, z]⟩)
        have nF : a ∉ X.fs := fun hm => by
          obtain ⟨e, he, q⟩ := List.mem_filterMap.mp hm
          exact nfr (List.mem_filterMap.mpr ⟨e, List.mem_cons_of_mem _ he, q⟩)
        exact ⟨oe, hz, ⟨vs, hd⟩, J3.suite he hd na nL nF, fun A Q E s k q => wpAny_typeOf_ref (k _ _ he) (by rw [hz.1]; exact q)⟩
      induction hk with
      | nil =>
        intro w h3 fl3 up3
        refine wpAny_handleBy_nil ?_
        obtain ⟨k1, k2, k3, oe, vs, T, oT, ts', he, hz, hd, h1, hr⟩ := id fl3
        unfold PySem.passOn
        refine wpAny_bind (wpAny_field he hd h1 ?_)
        rw [if_neg (show ¬ ((Value.ref T == Value.none) = true) from by simp)]
        have fin : wpAny (model X.prog X.w) X.A (setFlight (.ref a) X.env.frame) (fun _ s4 => wpAny (model X.prog X.w) X.A (throw (.ref a) : Sem Flow) (SP X pins D) X.xe s4) X.xe { s' with heap := h3 } := by
          rw [hf]
          refine HandSPX.setFlight_upZ fl3 fun h4 hh4 up4 => wpAny_throw (tk _ _ ⟨a, B, sI, pins, σ', H', cls, d, rfl, J, nb, up3.trans up4, .inr (.inr ?_), na, os, ag, w⟩)
          rw [hs]
          exact hh4
        first
          | exact wpAny_bind (wpAny_pure (wpAny_bind fin))
          | exact wpAny_bind fin
      | @plain t cs ts b₀ suite pos hds2 l2 ht hsu r ih =>
        rintro ⟨b, hb1, hyes, hno⟩ h3 fl3 up3
        obtain ⟨oe3, _, _, S3, LT⟩ := place fl3 up3
        refine wpAny_handleBy_cons (codeAny_handlers_test (ht a oe3 _ [] σ' H' _ cls b _ _ S3 LT hb1 fun h4 k4 => ?_)) (by intro q; cases q)
        have fl4 := flying_kept fl3 k4
        have up4 := up3.trans (Heap.UpToSlots.of_keeps k4)
        cases b with
        | true =>
          refine codeAny_handlers_suite ?_
          refine HandSPX.lands_againZ fl4 fun h5 fl5 up5 => ?_
          obtain ⟨oe5, hz5, hd5, S5, _⟩ := place fl5 (up4.trans up5)
          refine wpAny_mono ((hsu a oe5 cls d (X.pn ++ pins) hz5 hd5).run [] _ _ H' _ S5 (hyes rfl a na)) (fun f s6 hsp => ?_) (fun _ _ z => False.elim z)
          match f, hsp with
          | .next, ⟨σ6, H6, S6, q6⟩ => exact ⟨_, _, S6.unsuite ok, q6⟩
          | .brk, ⟨σ6, H6, S6, q6⟩ => exact ⟨_, _, S6.unsuite ok, q6⟩
          | .cont, ⟨σ6, H6, S6, q6⟩ => exact ⟨_, _, S6.unsuite ok, q6⟩
          | .ret u, ⟨v6, σ6, H6, S6, r6, q6⟩ => exact ⟨_, _, _, S6.unsuite ok, r6, q6⟩
        | false => exact ih (hno rfl) h4 fl4 up4
      | @named t cs n i ts b₀ suite pos hds2 l2 ht hi hln hsu r ih =>
        rintro ⟨b, hb1, hyes, hno⟩ h3 fl3 up3
        obtain ⟨oe3, _, _, S3, LT⟩ := place fl3 up3
        refine wpAny_handleBy_cons (codeAny_handlers_test (ht a oe3 _ [] σ' H' _ cls b _ _ S3 LT hb1 fun h4 k4 => ?_)) (by intro q; cases q)
        have fl4 := flying_kept fl3 k4
        have up4 := up3.trans (Heap.UpToSlots.of_keeps k4)
        cases b with
        | true =>
          refine codeAny_handlers_suite_as ?_
          refine HandSPX.lands_againZ fl4 fun h5 fl5 up5 => ?_
          obtain ⟨oe5, hz5, hd5, S5, _⟩ := place fl5 (up4.trans up5)
          refine store_ok (X := X.suite a ((a, oe5) :: (X.pn ++ pins))) (v := .ref a) S5 hN hi (.inl hln) rfl (fun s7 S7 => ?_) (.inr hln)
          refine wpAny_mono ((hsu a oe5 cls d (X.pn ++ pins) hz5 hd5).run [] s7 _ H' _ S7 (hyes rfl a na)) (fun f s6 hsp => ?_) (fun _ _ z => False.elim z)
          have end_ : ∀ {σ6 : L2.St} {H6 : Hp} {Q : Shared → Prop}, Inv (X.suite a ((a, oe5) :: (X.pn ++ pins))) [] σ6 H6 s6 → (∀ s7, Inv X pins (σ6.set i none) H6 s7 → Q s7) →
              wpAny (model X.prog X.w) X.A (do bindName X.env n .none; unbindBehindTheSuite X.env n pos) (fun _ s7 => Q s7) X.xe s6 := fun S6 hq => gone_ok (S6.unsuite ok) hN hi hln hq
          match f, hsp with
          | .next, ⟨σ6, H6, S6, q6⟩ => exact end_ S6 fun s7 J7 => ⟨_, _, J7, q6⟩
          | .brk, ⟨σ6, H6, S6, q6⟩ => exact end_ S6 fun s7 J7 => ⟨_, _, J7, q6⟩
          | .cont, ⟨σ6, H6, S6, q6⟩ => exact end_ S6 fun s7 J7 => ⟨_, _, J7, q6⟩
          | .ret u, ⟨v6, σ6, H6, S6, r6, q6⟩ => exact end_ S6 fun s7 J7 => ⟨_, _, _, J7, r6, q6⟩
        | false => exact ih (hno rfl) h4 fl4 up4
    exact main hh w h3 fl3 (up.trans up3)
  refine wpAny_mono ((hb (wTry X.K W D l) (X.pn ++ pins) xe tkb PassesOwn.looking).run [] s σ H D (I.toTry _) h) (fun f s1 hsp => ?_) (fun e s1 he => he)
  match f, hsp with
  | .next, ⟨σ', H', J', q⟩ => exact wpAny_execs_nil ⟨σ', H', J'.ofTry ok, q⟩
  | .brk, ⟨σ', H', J', q⟩ => exact ⟨σ', H', J'.ofTry ok, q⟩
  | .cont, ⟨σ', H', J', q⟩ => exact ⟨σ', H', J'.ofTry ok, q⟩
  | .ret u, ⟨v, σ', H', J', r, q⟩ => exact ⟨v, σ', H', J'.ofTry ok, r, q⟩
end
end RC

namespace RC
open PySem PySem.Spec PyProof.Rows L2
/-! ### the exception that a suite holds -/
def KnX (K : PySem.W.Frag) (cls : Value) (d : Option Addr) (H : Hp) : Prop := ∃ D, cls = .ref D ∧ ExcC K D ∧ (d = none ∨ ∃ dd fs, d = some dd ∧ H dd = some (.xd fs))
def rIsX (K : PySem.W.Frag) (a : Addr) (cls : Value) (d : Option Addr) : List V → Hp → VK → Prop := fun xs H Q => ∃ (c : V) (cv : Value) (b : Bool), xs = [.ref a, c] ∧ KnX K cls d H ∧ ClsV c cv ∧ PySem.W.kitOne K cls cv = some b ∧ Q (.bl b) H
def rIsXT (K : PySem.W.Frag) (a : Addr) (cls : Value) (d : Option Addr) : List V → Hp → VK → Prop := fun xs H Q => ∃ (tp : Addr) (cs : List V) (us : List Value) (b : Bool), xs = [.ref a, .ref tp] ∧ KnX K cls d H ∧ H tp = some (.tup cs) ∧ Paired ClsV cs us ∧ PySem.W.kitAny K cls us = some b ∧ Q (.bl b) H
def uIsX (K : PySem.W.Frag) (a : Addr) (cls : Value) (d : Option Addr) : List V → Hp → VK → Prop := fun xs H Q => rIsX K a cls d xs H Q ∨ rIsXT K a cls d xs H Q
def tXg (K : PySem.W.Frag) (a : Addr) (cls : Value) (d : Option Addr) (n : Str) (te : TE) : TE := fun σ H Q => te σ H fun x H1 => x = .ref a ∧ ∃ D dd fs v, cls = .ref D ∧ ExcC K D ∧ PySem.W.findIn K (.ref D) n = some none ∧ d = some dd ∧ H1 dd = some (.xd fs) ∧ fs.lookup n = some v ∧ Q v H1
section
variable {X : Cx} {a D : Addr} {oe : Obj} {cls : Value} {d : Option Addr}
theorem inst_at {pins : List (Addr × Obj)} {σ : L2.St} {H : Hp} {s : Shared} (hp : (a, oe) ∈ X.pn) (hz : Zc (.ref D) d oe) (hf : ∃ vs, oe.data = .fields vs) (I : Inv X pins σ H s) (hd : d = none ∨ ∃ dd fs, d = some dd ∧ H dd = some (.xd fs)) :
    ∃ od, PySem.W.InstAt s.heap a oe D od := by
  obtain ⟨ha, _⟩ := I.pin (a, oe) (List.mem_append_left _ hp)
  obtain ⟨vs, hv⟩ := hf
  have nc : PySem.W.notCls oe = true := by
    unfold PySem.W.notCls
    rw [hv] <;> rfl
  rcases hd with rfl | ⟨dd, fs, rfl, e⟩
  · exact ⟨none, ha, hz.1, nc, by rw [hz.2]; trivial⟩
  · obtain ⟨mA, ⟨o, es, ep, e1, e2⟩, hr⟩ := (show ObjOk X.prog X.w H s.heap dd (.xd fs) from I.hok dd _ e)
    exact ⟨some o, ha, hz.1, nc, by rw [hz.2]; exact e1⟩
theorem kit_exc {K : PySem.W.Frag} {od : Option Obj} (C : ExcC K D) : PySem.W.KitX K (.ref a) (.ref D) (fun h => PySem.W.InstAt h a oe D od) :=
  PySem.W.kitx_exc (by obtain ⟨cd, hc, _⟩ := PySem.W.any_some C.hd; rw [hc]; rfl) C.hg C.hk C.hs C.ha C.hn C.ht C.hm
theorem cr_isX (hp : (a, oe) ∈ X.pn) (hz : Zc cls d oe) (hf : ∃ vs, oe.data = .fields vs) : CallR X (.builtin "isinstance") (uIsX X.K a cls d) := by
  intro pins s σ H xs us Q I r h
  rcases h with ⟨c, cv, b, rfl, ⟨D, rfl, C, hd⟩, k, e, q⟩ | ⟨tp, cs, ws, b, rfl, ⟨D, rfl, C, hd⟩, hT, k, e, q⟩
  · obtain ⟨u1, u2, rfl, r1, r2⟩ := vals2 r
    cases (show u1 = Value.ref a from r1)
    cases k.eq r2
    obtain ⟨od, J⟩ := inst_at hp hz hf I hd
    exact PySem.W.kia_one (kit_exc C) I.kIn J e (fun z => nomatch z) fun tk => ⟨.bl b, H, I.tok tk, rfl, q⟩
  · obtain ⟨u1, u2, rfl, r1, r2⟩ := vals2 r
    cases (show u1 = Value.ref a from r1)
    cases (show u2 = Value.ref tp from r2)
    obtain ⟨od, J⟩ := inst_at hp hz hf I hd
    obtain ⟨_, its, rv, o, h1, h2, n, h3⟩ := (show ObjOk X.prog X.w H s.heap tp (.tup cs) from I.hok tp _ hT)
    cases ClsV.all k rv
    obtain ⟨oc, od2, dt, sl⟩ := o
    simp only at h2 h3
    subst h2 h3
    exact PySem.W.kia_tup (kit_exc C) I.kIn J h1 e (fun z => nomatch z) fun tk => ⟨.bl b, H, I.tok tk, rfl, q⟩
theorem pe_xg {e : Expr} {te : TE} {pos : Pos} {n : Str} (hp : (a, oe) ∈ X.pn) (hz : Zc cls d oe) (hf : ∃ vs, oe.data = .fields vs) (he : PE X e te) (hb : attributeBase e n X.env (eval e X.env) = eval e X.env := by rfl) :
    PE X (.Attribute e n pos) (tXg X.K a cls d n te) := by
  constructor
  intro pins s σ H Q I h
  refine attr_of hb (thn (he.run pins s σ H _ I h) ?_)
  rintro u s1 ⟨x, H1, I1, rx, rfl, D, dd, fs, v, rfl, C, hno, rfl, ea, l, q⟩
  cases (show u = Value.ref a from rx)
  obtain ⟨ha, _⟩ := I1.pin (a, oe) (List.mem_append_left _ hp)
  obtain ⟨vs, hv⟩ := hf
  obtain ⟨mA, hns, hr⟩ := (show ObjOk X.prog X.w H1 s1.heap dd (.xd fs) from I1.hok dd _ ea)
  obtain ⟨od, ho, hl⟩ := lookIn_ns hns
  obtain ⟨u, hu, ru⟩ := RelO.some_of (v := v) (o := mA n) (by rw [← l]; exact hr n)
  have nc : PySem.W.notCls oe = true := by
    unfold PySem.W.notCls
    rw [hv] <;> rfl
  have J : PySem.W.InstAt s1.heap a oe D (some od) := ⟨ha, hz.1, nc, by rw [hz.2]; exact ho⟩
  exact HandSPX.exc_get I1.kIn J C.hg C.hk C.hs (PySem.W.findObj_own C.hd hno rfl (by rw [hl, hu])) (handed_of ru) ⟨v, H1, I1.tok _, ru, q⟩
end
/-! ### a def that is handed the exception in a suite -/
structure FnE (P : Program) (w : World) (K : PySem.W.Frag) (mg : Str → Option Value) (base : Heap) (k : Nat) (f : Addr) (fd : FuncData) (x : Str) (sp : Addr → Value → Option Addr → Hp → VK → Prop) : Prop where
  run : ∀ (A : Around) (outer : List Env) (s : Shared) (H : Hp) (args : Args) (Q : VK) (a : Addr) (oe : Obj) (cls : Value) (d : Option Addr), L2H.RoomH k A → Zc cls d oe → (∃ vs, oe.data = .fields vs) → L2H.PinOk outer H s (a, oe) → Env0 P w K mg base A outer s H →
    BindsTo s fd args [(x, .ref a)] → sp a cls d H Q → codeAny (model P w) A (.call (.ref f) args) (CR CX0 outer P w H s Q E0) s
theorem okE {P : Program} {w : World} {K : PySem.W.Frag} {mg : Str → Option Value} {base : Heap} {k : Nat} {f : Addr} {fd : FuncData} {x xq qual : Str} {params : Arguments} {body : List Stmt} {scope : Scope} {dvs : List V} {kws : List (Str × V)} {N : List Str}
    {sp : Addr → Value → Option Addr → Hp → VK → Prop} (D : FunD K xq qual params body scope dvs kws f fd) (S : FnScope N [x] scope)
    (hbody : ∀ (cdv : Value) (B : Around) (out : List Env) (t : Shared) (H : Hp) (Q : VK) (a : Addr) (oe : Obj) (cls : Value) (d : Option Addr), L2H.RoomH k (B.deeper (envOfC qual scope t.heap.objs.size f cdv)) → Zc cls d oe → (∃ vs, oe.data = .fields vs) → sp a cls d H Q →
      ∃ tr, PSs (L2H.cxH CX0 P w K mg base N qual scope f cdv B out t H E0 (a, oe)) body tr ∧ tr { nx := fun _ H' => Q .non H', rt := Q } (L2.start N [.ref a]) H) :
    FnE P w K mg base (k + 1) f fd x sp := by
  obtain ⟨⟨oc, od, dV, kV, doc, pm, an, cdv, ct, osl, rfl, lk, hcd, _, _⟩, _⟩ := D
  constructor
  intro A outer s H args Q a oe cls d hr hz hf hpin env hb hsp
  have hin : K.In s.heap := env.mod.kin.keeps fun b o q => (env.bs b o q).1
  have hno : s.heap.NoLimit := env.mod.nolimit.keeps fun b o q => (env.bs b o q).1
  have hk : ∀ y ∈ [x].zip [Value.ref a], scope.names.lookup y.1 = some .local ∨ (scope.names.lookup y.1 = some .cell ∧ ((cellsFrom (s.heap.objs.size + 1) scope.names []).lookup y.1).isSome = true) := by
    rintro ⟨n, v⟩ hy
    cases S.par n (List.of_mem_zip hy).1 with
    | inl q => exact .inl q
    | inr q => exact .inr ⟨q, PySem.W.cellsFrom_some _ _ _ (.inl q)⟩
  refine codeAny_call_function hr.depth (hin _ _ lk) rfl S.co S.gen rfl (PySem.W.codeRec_of hin hcd) (hb _ _ _ _ ?_)
  refine wpAny_newFunctionEnv_cells S.kind hk fun ev hev t1 ic => ?_
  subst hev
  refine ⟨hno.keeps ic.toInCall.keep, codeAny_func ?_⟩
  obtain ⟨tr, htr, hq⟩ := hbody cdv A outer s H Q a oe cls d (hr.deeper _) hz hf hsp
  have J : Inv (L2H.cxH CX0 P w K mg base N qual scope f cdv A outer s H E0 (a, oe)) [] (L2.start N [.ref a]) H t1 := L2H.inv_startH (us := [.ref a]) S hpin env rfl (.cons rfl .nil) ic
  refine wpAny_mono (htr.run [] t1 _ H _ J hq) (fun fl t2 z => ?_) fun _ _ z => z
  match fl, z with
  | .next, ⟨s2, H2, J2, q2⟩ => exact ⟨V.non, H2, J2.os, J2.bare, J2.base, J2.hok, rfl, q2⟩
  | .ret u, ⟨v2, s2, H2, J2, r2, q2⟩ => exact ⟨v2, H2, J2.os, J2.bare, J2.base, J2.hok, r2, q2⟩
  | .brk, ⟨_, _, _, q2⟩ => cases q2
  | .cont, ⟨_, _, _, q2⟩ => cases q2
/-- f(e), e the exception that is held -/
def tCallE (a : Addr) (cls : Value) (d : Option Addr) (sp : Addr → Value → Option Addr → Hp → VK → Prop) (te : TE) : TE := fun σ H Q => te σ H fun x H1 => x = .ref a ∧ sp a cls d H1 Q
theorem pe_callE {X : Cx} {a f : Addr} {oe : Obj} {cls : Value} {d : Option Addr} {k : Nat} {fd : FuncData} {x px : Str} {sp : Addr → Value → Option Addr → Hp → VK → Prop} {e : Expr} {te : TE} {p pos : Pos} (F : FnE X.prog X.w X.K X.mg X.base k f fd px sp) (hp : (a, oe) ∈ X.pn) (hz : Zc cls d oe)
    (hf : ∃ vs, oe.data = .fields vs) (hr : L2H.RoomH k X.A) (hg : Gl X x) (hm : X.mg x = some (.ref f)) (hk : PySem.W.keepIn X.K (.ref f) = true) (hb : Binds X.K fd [px] []) (ha : PE X e te)
    (hdb : (x == ("__debug__" : Str)) = false := by decide) (he : starEach [e] X.env = (false, eval e X.env) :: starEach [] X.env := by rfl) : PE X (.Call (.Name x p) [e] [] pos) (tCallE a cls d sp te) := by
  constructor
  intro pins s σ H Q I h
  refine wpAny_Call_Name_kw (ld_glob I hg hm ?_ hdb)
  have pa := pa_cons (PE.wk ha) (pa_nil (X := X)) he
  have body := thn (pa.run pos pins s σ H (fun vs H1 => vs = [.ref a] ∧ sp a cls d H1 Q) I ⟨_, h, fun v H1 z => ⟨by rw [z.1], z.2⟩⟩) (Q' := fun us s1 => X.K.In s1.heap ∧ wpAny (model X.prog X.w) X.A (call (.ref f) us) (EP X pins σ Q) X.xe s1) ?_
  · exact PySem.W.callWith_K (h₀ := X.base) I.ok.mod.kin hk body he rfl
  rintro us s1 ⟨vs, H1, I1, r1, rfl, q1⟩
  refine ⟨I1.kIn, ?_⟩
  obtain ⟨u, rfl, ru⟩ := vals1 r1
  cases (show u = Value.ref a from ru)
  have P1 := I1.pin (a, oe) (List.mem_append_left _ hp)
  have hpin : L2H.PinOk X.stack H1 s1 (a, oe) := ⟨P1.1, P1.2.1, fun hm => (List.mem_cons.mp (I1.stkSub a hm)).elim P1.2.2.1 P1.2.2.2.1, P1.2.2.2.2⟩
  have bb := hb s1 [.ref a] I1.kIn rfl
  have go := F.run X.A X.stack s1 H1 ⟨[.ref a], []⟩ Q a oe cls d hr hz hf hpin I1.env0 bb q1
  refine wpAny_call (codeAny_mono go fun r s' hq => ?_)
  match r, hq with
  | .error _, hq => exact hq.elim
  | .ok (.ret u), hq => exact I1.after hq
  | .ok .next, hq => cases hq
  | .ok .brk, hq => cases hq
  | .ok .cont, hq => cases hq
/-! ### the head's facts, any -/
def startsAt (g : Addr → Option Obj) : Nat → List Addr
  | 0 => [mainGlobals, cStatics]
  | n + 1 => He.growD g (startsAt g n)
def obsF (fa : List (PySem.W.Frag → Bool)) (fn : List He.DefD) (K : PySem.W.Frag) : He.AlD := ((fa.all fun f => f K) && fn.all fun d => d.ok K, fn.map fun d => He.fnW K d.at_)
def SaysF (fa : List (PySem.W.Frag → Bool)) (fn : List He.DefD) (K : PySem.W.Frag) : Prop := obsF fa fn K = He.valD fn
def obsFG (n : Nat) (fa : List (PySem.W.Frag → Bool)) (fn : List He.DefD) (g : Addr → Option Obj) : He.AlD := obsF fa fn (He.frG g (startsAt g n))
def hookF (n : Nat) (fa : List (PySem.W.Frag → Bool)) (fn : List He.DefD) : PySem.W.Hook where
  α := He.AlD
  obs := fun s => obsFG n fa fn s.heap.get?
  val := fun _ => He.valD fn
  says := fun _ h => ∃ K : PySem.W.Frag, K.In h ∧ SaysF fa fn K
  of := fun _ _ e => ⟨_, He.frG_in, e⟩
  keeps := fun _ _ _ ⟨K, hK, c⟩ k => ⟨K, PySem.W.Frag.In.keeps hK k, c⟩
theorem obsFG_eq {n : Nat} {fa : List (PySem.W.Frag → Bool)} {fn : List He.DefD} {g : Addr → Option Obj} {s : Shared} (h : ∀ a, g a = s.heap.get? a) : obsFG n fa fn g = (hookF n fa fn).obs s := by
  have e : g = s.heap.get? := funext h
  rw [e] <;> rfl
section
variable {fa : List (PySem.W.Frag → Bool)} {fn : List He.DefD} {K : PySem.W.Frag}
theorem SaysF.fact (c : SaysF fa fn K) (i : Nat) {f : PySem.W.Frag → Bool} (h : fa[i]? = some f := by rfl) : f K = true := by
  have c1 : ((fa.all fun f => f K) && fn.all fun d => d.ok K) = true := congrArg (fun z : He.AlD => z.1) c
  exact List.all_eq_true.mp (Bool.and_eq_true_iff.mp c1).1 f (List.mem_of_getElem? h)
theorem SaysF.def_ (c : SaysF fa fn K) (i : Nat) {d : He.DefD} (h : fn[i]? = some d := by rfl) : ∃ fd, FunD K d.name d.qual d.params d.body d.scope (d.dvs K) (d.kws K) (He.fAd K d.at_) fd := by
  have c1 : ((fa.all fun f => f K) && fn.all fun d => d.ok K) = true := congrArg (fun z : He.AlD => z.1) c
  have e : fn.map (fun d => He.fnW K d.at_) = fn.map He.DefD.val := congrArg (fun z : He.AlD => z.2) c
  have e2 : (fn.map fun d => He.fnW K d.at_)[i]? = (fn.map He.DefD.val)[i]? := by rw [e]
  rw [List.getElem?_map, List.getElem?_map, h] at e2
  exact He.DefD.funD (Option.some.inj e2) (List.all_eq_true.mp (Bool.and_eq_true_iff.mp c1).2 d (List.mem_of_getElem? h))
end
end RC

theorem L2H.RoomH.units {k : Nat} {A : PySem.Around} (r : L2H.RoomH k A) : A.units + 64 < PySem.cLine := by
  have := r.un
  omega
theorem L2H.RoomH.u65 {k : Nat} {A : PySem.Around} (r : L2H.RoomH k A) : A.units + 65 < PySem.cLine := by
  have := r.un
  omega
theorem L2H.RoomH.u1 {k : Nat} {A : PySem.Around} (r : L2H.RoomH k A) : A.units + 1 < PySem.cLine := by
  have := r.un
  omega
theorem L2.Room.u65 {k : Nat} {A : PySem.Around} (r : L2.Room k A) : A.units + 65 < PySem.cLine := by
  have := r.un
  omega
theorem L2.Room.u1 {k : Nat} {A : PySem.Around} (r : L2.Room k A) : A.units + 1 < PySem.cLine := by
  have := r.un
  omega
namespace RC
open PySem PySem.Spec PyProof.Rows L2
/-- no wish -/
def W0 : WX := fun _ _ _ _ => False
abbrev WT (E : XK) : WX := fun cls d _ H => E cls d H
theorem tk0 {X : Cx} : Takes X W0 := takes_none5
/-- a def that may raise -/
theorem okW {g : Bool} {P : Program} {w : World} {K : PySem.W.Frag} {mg : Str → Option Value} {base : Heap} {k : Nat} {f : Addr} {fd : FuncData} {ps : List Str} {sp : Sp} {x qual : Str} {params : Arguments} {body : List Stmt} {scope : Scope} {dvs : List V} {kws : List (Str × V)} {N : List Str}
    (D : FunD K x qual params body scope dvs kws f fd) (S : FnScope N ps scope) (hlen : ∀ vs H Q E, sp vs H Q E → vs.length = ps.length)
    (hbody : ∀ (cdv : Value) (B : Around) (out : List Env) (t : Shared) (H : Hp) (vs : List V) (Q : VK) (E : XK), (g = true → B.guards = some []) → Room k (B.deeper (envOfC qual scope t.heap.objs.size f cdv)) → sp vs H Q E →
      Takes (cxOf (L2.CX P w) P w K mg base N qual scope f cdv B out t H E) (WT E) → PassesOwn (model P w) (cxOf (L2.CX P w) P w K mg base N qual scope f cdv B out t H E).A (cxOf (L2.CX P w) P w K mg base N qual scope f cdv B out t H E).env (cxOf (L2.CX P w) P w K mg base N qual scope f cdv B out t H E).xe →
      ∃ tr, PSs (cxOf (L2.CX P w) P w K mg base N qual scope f cdv B out t H E) body tr ∧ tr { nx := fun _ H' => Q .non H', rt := Q } (L2.start N vs) H) :
    FnX g P w K mg base (L2.CX P w) (k + 1) f fd ps sp :=
  okX D S hlen fun cdv B out t H vs Q E hg hr hs => hbody cdv B out t H vs Q E hg hr hs (takes_of rfl rfl rfl rfl) (passes_of rfl)
section
variable {X : Cx}
theorem uo_inU (hu : X.A.units + 65 < cLine) : OpR X (compareOp .In) (uIn X.K) := op_in_seq.or ((op_inD hu).or ((op_din (by omega)).or op_in_str))
theorem uo_notinU (hu : X.A.units + 65 < cLine) : OpR X (compareOp .NotIn) (uNotIn X.K) := op_notIn_seq.or ((op_notInD hu).or ((op_dnotin (by omega)).or op_notin_str))
/-- d[k] by values -/
def rIxK : R2 := fun x y H Q => ∃ a v, x = .ref a ∧ DGet H a y (some v) ∧ Q v H
theorem ix_dk (hu : X.A.units + 1 < cLine) : IxR X rIxK := by
  intro value slice pins s σ H x y v u Q I rx ry h hs
  obtain ⟨a, r, rfl, hd, q⟩ := h
  cases (show v = Value.ref a from rx)
  exact tail_any (dict_typeIs I hd) PySem.F.slot_dict_getitem.lookup (d_getItem hu I hd ry fun w' s3 I3 rw' => ⟨r, H, I3, rw', q⟩) hs
def uIy (K : PySem.W.Frag) : R2 := fun x y H Q => rIx K x y H Q ∨ rIxK x y H Q
theorem ix_any2 (hu : X.A.units + 1 < cLine) : IxR X (uIy X.K) := ix_seq.or (ix_dk hu)
/-- xs.count(y), flat items -/
def rCntV (K : PySem.W.Frag) : V → List V → Hp → VK → Prop := fun x xs H Q => ∃ (a : Addr) (ys : List V) (y : V), x = V.ref a ∧ xs = [y] ∧ SqL K H a ys ∧ flatV y = true ∧ ys.all flatV = true ∧ Q (.int ((ys.countP fun z => eqV z y) : Nat)) H
theorem countP_vals {y : V} : ∀ {ys : List V} {its : List Value}, Vals ys its → ys.all flatV = true → its.countP (eqU y) = ys.countP fun z => eqV z y
  | _, _, .nil, _ => rfl
  | _, _, .cons r t, h => by
    rw [List.all_cons, Bool.and_eq_true] at h
    rw [List.countP_cons, List.countP_cons, countP_vals t h.2, eqU_of r h.1]
theorem mt_countV : MtR X "list.count" (rCntV X.K) := by
  intro pins s σ H x xs v us Q I rx rxs h
  obtain ⟨a, ys, y, rfl, rfl, hs, fy, fys, q⟩ := h
  cases rx
  obtain ⟨u, rfl, ru⟩ := rxs.one
  obtain ⟨its, rv, ⟨⟨cls, dd, data, sl⟩, n, ho, hc, hdn, hd⟩, hlen⟩ := I.list hs
  simp only at hc hd
  subst hc hd
  refine call_meets PySem.F.slot_list_count ⟨_, ho, rfl⟩ PySem.F.entry_list_count (PySem.F.args_list_count_2 _ _)
    (SeqAt.list_countAt a its.toArray n dd sl u (eqU y)) ⟨ho, fun u' hu' => mem_eqAt ru fy rv fys u' (by simpa using hu'), ?_⟩
  refine ⟨.int _, H, I.tok _, ⟨s.toks, ?_⟩, q⟩
  have e : its.toArray.toList.countP (eqU y) = ys.countP fun z => eqV z y := countP_vals rv fys
  rw [e]
/-- len(o) by an own __len__ -/
def rLenI (C : Addr) (sp : Sp) : List V → Hp → VK → Prop := fun xs H Q => ∃ a dx fs, xs = [.ref a] ∧ H a = some (.ins C dx fs) ∧ sp [.ref a] H (fun v H' => ∃ n : Int, v = .int n ∧ 0 ≤ n ∧ n < 2 ^ 63 ∧ Q (.int n) H') E0
theorem cr_lenI {C f : Addr} {k : Nat} {fd : FuncData} {ps : List Str} {sp : Sp} (hm : Meth X.K C "__len__" f) (F : FnX false X.prog X.w X.K X.mg X.base CX0 k f fd ps sp) (hr : Room (k + 1) X.A) (hb : Binds X.K fd ps []) : CallR X (.builtin "len") (rLenI C sp) := by
  intro pins s σ H xs us Q I r h
  obtain ⟨a, dx, fs, rfl, ea, q⟩ := h
  obtain ⟨u, rfl, ru⟩ := vals1 r
  cases (show u = Value.ref a from ru)
  obtain ⟨m, fr⟩ := I.fr
  obtain ⟨mA, O, _⟩ := ins_get I.hok ea
  obtain ⟨od, J, _⟩ := O.look
  refine PySem.W.len_K fr I.ok.mod.kin J hm.at_ hm.fn ?_
  have ll : ([Value.ref a] ++ []).length = ps.length := (F.lenG _ _ _ _ q).symm ▸ rfl
  have bb := hb s [.ref a] I.kIn ll
  have go := F.runG X.A.in1 X.stack s H ⟨[.ref a], []⟩ _ [.ref a] [.ref a] _ _ (fun z => nomatch z) hr.in1 I.env0.in1 bb (.refl _) (.cons rfl .nil) q
  refine wpAny_call (codeAny_mono go fun res s' hq => ?_)
  match res, hq with
  | .error _, hq => exact hq.elim
  | .ok (.ret u), hq =>
    obtain ⟨v, H', I', rv, n, rfl, h0, h1, q'⟩ := I.after hq
    obtain ⟨t, rfl⟩ := rv
    exact ⟨⟨h0, h1⟩, ⟨.int n, H', I'.tok _, ⟨_, rfl⟩, q'⟩⟩
  | .ok .next, hq => cases hq
  | .ok .brk, hq => cases hq
  | .ok .cont, hq => cases hq
end
def clsB : Stmt → List Stmt
  | .ClassDef _ _ _ body _ _ _ _ _ _ _ => body
  | _ => []
/-! ### checks of the head's part -/
abbrev mA (K : PySem.W.Frag) (c m : Str) : Addr := He.ma K (He.ga K c) m
def chB (K : PySem.W.Frag) (x : Str) (bmB : List Value) (newId : String) : Bool := PySem.W.excInitIn K (He.ga K x) bmB newId && (PySem.W.excOver K (He.ga K x) bmB && (PySem.W.hasDictIn K (He.ga K x) && (He.eqO (PySem.W.findIn K (.ref (He.ga K x)) "__setattr__") (some (some (.builtin "object.__setattr__"))) &&
  (decide (PySem.W.subIn K (.ref (He.ga K x)) (.type "BaseException") = some true) && (decide (PySem.W.typeIn K (.ref (He.ga K x)) = some (.type "type")) && PySem.W.keepIn K (.ref (He.ga K x)))))))
theorem chB_ok {K : PySem.W.Frag} {x : Str} {B newId initId : String} {bmB : List Value} (fb : ExcBaseFacts B newId initId bmB) (sf : StoreFacts B bmB "object.__setattr__" "object") (h : chB K x bmB newId = true) : XcB K (He.ga K x) B newId initId bmB := by
  obtain ⟨h1, h⟩ := He.ba h
  obtain ⟨h2, h⟩ := He.ba h
  obtain ⟨h3, h⟩ := He.ba h
  obtain ⟨h4, h⟩ := He.ba h
  obtain ⟨h5, h⟩ := He.ba h
  obtain ⟨h6, h7⟩ := He.ba h
  exact ⟨fb, sf, h1, h2, h3, He.eqO_ok h4, of_decide_eq_true h5, of_decide_eq_true h6, h7⟩
abbrev tlB (B : String) : List Value := [.type B, .type "Exception", .type "BaseException", .type "object"]
theorem chB_VE {K : PySem.W.Frag} {x : Str} (h : chB K x (tlB "ValueError") "ValueError.__new__" = true) : XcB K (He.ga K x) "ValueError" "ValueError.__new__" "ValueError.__init__" (tlB "ValueError") := chB_ok PySem.F.excBase_ValueError PySem.F.store_ValueError h
theorem chB_LE {K : PySem.W.Frag} {x : Str} (h : chB K x (tlB "LookupError") "LookupError.__new__" = true) : XcB K (He.ga K x) "LookupError" "LookupError.__new__" "LookupError.__init__" (tlB "LookupError") := chB_ok PySem.F.excBase_LookupError PySem.F.store_LookupError h
theorem chB_RE {K : PySem.W.Frag} {x : Str} (h : chB K x (tlB "RuntimeError") "RuntimeError.__new__" = true) : XcB K (He.ga K x) "RuntimeError" "RuntimeError.__new__" "RuntimeError.__init__" (tlB "RuntimeError") := chB_ok PySem.F.excBase_RuntimeError PySem.F.store_RuntimeError h
def chI (K : PySem.W.Frag) (x : Str) (initId : String) : Bool := He.eqO (PySem.W.specialIn K (.ref (He.ga K x)) "__getattribute__") (some (some (.builtin "type.__getattribute__"))) && (decide (PySem.W.typeIn K (.ref (He.ga K x)) = some (.type "type")) && (PySem.W.readsIn K (He.ga K x) (.type "type") &&
  (match PySem.W.findCls K (.ref (He.ga K x)) (.type "type") "__init__" with
    | some (.val (.builtin n)) => decide (n = initId)
    | _ => false)))
theorem chI_ok {K : PySem.W.Frag} {x : Str} {initId : String} (h : chI K x initId = true) : XcI K (He.ga K x) initId := by
  obtain ⟨h1, h⟩ := He.ba h
  obtain ⟨h2, h⟩ := He.ba h
  obtain ⟨h3, h4⟩ := He.ba h
  refine ⟨He.eqO_ok h1, of_decide_eq_true h2, h3, ?_⟩
  split at h4
  · rename_i n e
    rw [e, of_decide_eq_true h4]
  · cases h4
def chC (K : PySem.W.Frag) (x : Str) : Bool := He.eqO (PySem.W.findIn K (.ref (He.ga K x)) "__getattribute__") (some (some (.builtin "BaseException.__getattribute__"))) && (He.eqO (PySem.W.findIn K (.ref (He.ga K x)) "__getattr__") (some none) &&
  (decide (PySem.W.subIn K (.ref (He.ga K x)) (.type "BaseException") = some true) && (PySem.W.hasDictIn K (He.ga K x) && (He.eqO (PySem.W.findIn K (.ref (He.ga K x)) "__class__") (some (some (.builtin "object.__class__"))) &&
  (He.eqO (PySem.W.specialIn K (.builtin "object.__class__") "__get__") (some (some (.builtin "getset_descriptor.__get__"))) && (decide (PySem.W.takesIn K (.builtin "object.__class__") = some true) && decide (PySem.W.mroIn K (He.ga K x) (.type "object") = some true)))))))
theorem chC_ok {K : PySem.W.Frag} {x : Str} (h : chC K x = true) : ExcC K (He.ga K x) := by
  obtain ⟨h1, h⟩ := He.ba h
  obtain ⟨h2, h⟩ := He.ba h
  obtain ⟨h3, h⟩ := He.ba h
  obtain ⟨h4, h⟩ := He.ba h
  obtain ⟨h5, h⟩ := He.ba h
  obtain ⟨h6, h⟩ := He.ba h
  obtain ⟨h7, h8⟩ := He.ba h
  exact ⟨He.eqO_ok h1, He.eqO_ok h2, of_decide_eq_true h3, h4, He.eqO_ok h5, He.eqO_ok h6, of_decide_eq_true h7, of_decide_eq_true h8⟩
def chN (K : PySem.W.Frag) (x f : Str) : Bool := He.eqO (PySem.W.findIn K (.ref (He.ga K x)) f) (some none)
theorem chN_ok {K : PySem.W.Frag} {x f : Str} (h : chN K x f = true) : PySem.W.findIn K (.ref (He.ga K x)) f = some none := He.eqO_ok h
def chF (K : PySem.W.Frag) (x : Str) : Bool := He.eqO (PySem.W.findIn K (.ref (He.ga K x)) "__init__") (some (some (.ref (mA K x "__init__")))) && decide (PySem.W.typeIn K (.ref (mA K x "__init__")) = some (.type "function"))
theorem chF_ok {K : PySem.W.Frag} {x : Str} (h : chF K x = true) : PySem.W.findIn K (.ref (He.ga K x)) "__init__" = some (some (.ref (mA K x "__init__"))) ∧ PySem.W.typeIn K (.ref (mA K x "__init__")) = some (.type "function") := ⟨He.eqO_ok (He.ba h).1, of_decide_eq_true (He.ba h).2⟩
def chM (K : PySem.W.Frag) (x y : Str) (b : Bool) : Bool := decide (PySem.W.exmOne K (.ref (He.ga K x)) (.ref (He.ga K y)) = some b)
theorem chM_ok {K : PySem.W.Frag} {x y : Str} {b : Bool} (h : chM K x y b = true) : PySem.W.exmOne K (.ref (He.ga K x)) (.ref (He.ga K y)) = some b := of_decide_eq_true h
def chK (K : PySem.W.Frag) (x y : Str) (b : Bool) : Bool := decide (PySem.W.kitOne K (.ref (He.ga K x)) (.ref (He.ga K y)) = some b)
theorem chK_ok {K : PySem.W.Frag} {x y : Str} {b : Bool} (h : chK K x y b = true) : PySem.W.kitOne K (.ref (He.ga K x)) (.ref (He.ga K y)) = some b := of_decide_eq_true h
def chT (K : PySem.W.Frag) (x : Str) (y : String) (b : Bool) : Bool := decide (PySem.W.kitOne K (.ref (He.ga K x)) (.type y) = some b)
theorem chT_ok {K : PySem.W.Frag} {x : Str} {y : String} {b : Bool} (h : chT K x y b = true) : PySem.W.kitOne K (.ref (He.ga K x)) (.type y) = some b := of_decide_eq_true h
theorem exm_cons {K : PySem.W.Frag} {cls c : Value} {cs : List Value} {b d : Bool} (h : PySem.W.exmOne K cls c = some b) (h2 : PySem.W.exmAny K cls cs = some d) : PySem.W.exmAny K cls (c :: cs) = some (b || d) := by
  unfold PySem.W.exmAny
  rw [h, h2]
/-! ### more -/
theorem pasF {X : Cx} {σ : L2.St} : PassesAt (L2.CX X.prog X.w) X σ (WE W0 σ) := fun _ _ _ _ _ _ ⟨_, _, _, _, _, _, _, _, _, _, _, _, z⟩ => z.elim
def tTry (K : PySem.W.Frag) (W : WX) (tb : WX → TS) (l : List Hd) : TS := fun D σ H => tb (wTry K W D l) D σ H
theorem ps_tryT {X : Cx} {body : List Stmt} {h₀ : ExceptHandler} {hds : List ExceptHandler} {l : List Hd} {pos : Pos} {tb : WX → TS} {W : WX} (hs : X.stack = X.env :: X.outer) (hf : X.env.frame = some X.env.locals) (hN : X.N.Nodup) (tk : Takes X W)
    (hb : ∀ (W' : WX) (pn : List (Addr × Obj)) (xe : Value → Shared → Prop), Takes (X.tr pn xe) W' → PassesOwn (model X.prog X.w) X.A X.env xe → PSs (X.tr pn xe) body (tb W'))
    (hh : HdOk X (h₀ :: hds) l) : PS X (.Try body (h₀ :: hds) [] [] pos) (tTry X.K W tb l) := ps_tryG hs hf hN tk hb hh
theorem roomMark {k : Nat} {A : Around} {h : Option Value} (r : Room k A) : L2H.RoomH k (A.mark h) := ⟨r.dp, r.un⟩
def rSortDI : List V → Hp → VK → Prop := fun xs H Q => ∃ (a : Addr) (kvs : List (Key × V)) (ks : List Int), xs = [.ref a] ∧ Rd H a (.dK kvs) ∧ kvs.map (·.1) = ks.map Sum.inl ∧ ks.length < 64 ∧
  ∀ (ys : List Int) (p : Addr), ys.Perm ks → ys.Pairwise (· ≤ ·) → H p = none → Q (.ref p) (upd H p (.lst (ys.map V.int)))
theorem cr_sortedDI {X : Cx} (h : X.calm = true) : CallR X (.builtin "sorted") rSortDI := call_sortedDI h
def rDictD : List V → Hp → VK → Prop := fun xs H Q => ∃ (a : Addr) (kvs : List (Key × V)), xs = [.ref a] ∧ Rd H a (.dK kvs) ∧ ∀ p, H p = none → Q (.ref p) (upd H p (.dK kvs))
theorem cr_dictD {X : Cx} : CallR X (.type "dict") rDictD := call_dictD
end RC

namespace RC
open PySem PySem.Spec PyProof.Rows L2
section
variable {K : PySem.W.Frag} {σ : L2.St} {H : Hp} {Q : VK} {D : Ends} {Rs : List Res} {E : XK} {W : WX} {sp : Sp} {dvs : List V} {t : TA} {ta te tb tc : TE} {C a : Addr} {m f : Str} {v : V}
theorem g_callW (k : t σ H fun vs H1 => sp (vs ++ dvs) H1 Q (WE W σ)) : tCallW W sp dvs t σ H Q := k
def MethK (W : WX) (C : Addr) (m : Str) (sp : Sp) (dvs : List V) (t : TA) (σ : L2.St) (Q : VK) : VK := fun x H1 => ∃ a dx fs, x = .ref a ∧ H1 a = some (.ins C dx fs) ∧ fs.lookup m = none ∧ t σ H1 fun vs H2 => sp (x :: (vs ++ dvs)) H2 Q (WE W σ)
theorem g_meth (k : ta σ H (MethK W C m sp dvs t σ Q)) : tMethW W C m sp dvs ta t σ H Q := k
theorem v_meth {dx : Addr} {fs : List (Str × V)} (h : H a = some (.ins C dx fs)) (l : fs.lookup m = none) (k : t σ H fun vs H2 => sp (.ref a :: (vs ++ dvs)) H2 Q (WE W σ)) : MethK W C m sp dvs t σ Q (.ref a) H := ⟨a, dx, fs, rfl, h, l, k⟩
def MakeK (W : WX) (C : Addr) (sp : Sp) (dvs : List V) (σ : L2.St) (Q : VK) : List V → Hp → Prop := fun vs H1 => ∀ x dx, H1 x = none → H1 dx = none → dx ≠ x → sp (.ref x :: (vs ++ dvs)) (upd (upd H1 dx (.own x)) x (.ins C dx [])) (fun v H2 => v = .non ∧ Q (.ref x) H2) (WE W σ)
theorem g_make (k : t σ H (MakeK W C sp dvs σ Q)) : tMakeW W C sp dvs t σ H Q := k
theorem v_make {vs : List V} (S : M Rs H) (k : ∀ x dx H', M (pt x (.ins C dx []) :: pt dx (.own x) :: Rs) H' → sp (.ref x :: (vs ++ dvs)) H' (fun v H2 => v = .non ∧ Q (.ref x) H2) (WE W σ)) : MakeK W C sp dvs σ Q vs H := by
  intro x dx hx hdx hne
  exact k x dx _ ((S.new hdx).new (by rw [upd_ne (fun z => hne z.symm)]; exact hx))
def FldK (K : PySem.W.Frag) (f : Str) (Q : VK) : VK := fun x H1 => ∃ a C dx fs v, x = .ref a ∧ H1 a = some (.ins C dx fs) ∧ Cls K C ∧ NoAttr K C f ∧ fs.lookup f = some v ∧ Q v H1
theorem g_fld (k : ta σ H (FldK K f Q)) : tFld K ta f σ H Q := k
theorem v_fld {dx : Addr} {fs : List (Str × V)} (h : H a = some (.ins C dx fs)) (c : Cls K C) (n : NoAttr K C f) (l : fs.lookup f = some v) (k : Q v H) : FldK K f Q (.ref a) H := ⟨a, C, dx, fs, v, rfl, h, c, n, l, k⟩
def SFldK (K : PySem.W.Frag) (f : Str) (y : V) (σ : L2.St) (D : Ends) : VK := fun x H2 => ∃ a C dx fs, x = .ref a ∧ H2 a = some (.ins C dx fs) ∧ Cls K C ∧ NoAttr K C f ∧ fs.length < 1000 ∧ D.nx σ (upd H2 a (.ins C dx (putF f y fs)))
theorem g_sfld (k : te σ H fun y H1 => ta σ H1 (SFldK K f y σ D)) : sFld K ta te f D σ H := k
theorem v_sfld {dx : Addr} {fs : List (Str × V)} {y : V} (S : M Rs H) (i : Nat) (e : Rs[i]? = some (pt a (.ins C dx fs))) (c : Cls K C) (n : NoAttr K C f) (l : fs.length < 1000) (k : ∀ H', M (Rs.set i (pt a (.ins C dx (putF f y fs)))) H' → D.nx σ H') : SFldK K f y σ D (.ref a) H :=
  ⟨a, C, dx, fs, rfl, S.got i e, c, n, l, k _ (S.putAt i e)⟩
def RzK (W : WX) (C : Addr) (f : Str) (σ : L2.St) : VK := fun v H1 => ∀ d, H1 d = none → W (.ref C) (some d) σ (upd H1 d (.xd [(f, v)]))
theorem g_rz (k : te σ H (RzK W C f σ)) : tRz W C f te D σ H := k
theorem v_rz (S : M Rs H) (k : ∀ d H', M (pt d (.xd [(f, v)]) :: Rs) H' → W (.ref C) (some d) σ H') : RzK W C f σ v H := fun d hd => k d _ (S.new hd)
theorem v_dnew (S : M Rs H) (k : ∀ d H', M (pt d (.dK []) :: Rs) H' → Q (.ref d) H') : tDNewK σ H Q := fun d hd => k d _ (S.new hd)
def Pop1K (ty : TE) (σ : L2.St) (Q : VK) : VK := fun x H1 => ∃ a, x = .ref a ∧ IsD H1 a ∧ ty σ H1 fun y H2 => ∃ kvs k v, H2 a = some (.dK kvs) ∧ y = kV k ∧ valV kvs k = some v ∧ Q v (upd H2 a (.dK (dropK kvs k)))
theorem g_dpop (k : ta σ H (Pop1K tb σ Q)) : tDPop1 ta tb σ H Q := k
def PopV (a : Addr) (Q : VK) : VK := fun y H2 => ∃ kvs k v, H2 a = some (.dK kvs) ∧ y = kV k ∧ valV kvs k = some v ∧ Q v (upd H2 a (.dK (dropK kvs k)))
theorem v_dpop {kvs : List (Key × V)} (h : H a = some (.dK kvs)) (k : tb σ H (PopV a Q)) : Pop1K tb σ Q (.ref a) H := ⟨a, rfl, .inl ⟨kvs, .inl h⟩, k⟩
theorem v_popI {kvs : List (Key × V)} {n : Int} (S : M Rs H) (i : Nat) (e : Rs[i]? = some (pt a (.dK kvs))) (hv : valV kvs (Sum.inl n) = some v) (k : ∀ H', M (Rs.set i (pt a (.dK (dropK kvs (Sum.inl n))))) H' → Q v H') : PopV a Q (.int n) H :=
  ⟨kvs, Sum.inl n, v, S.got i e, rfl, hv, k _ (S.putAt i e)⟩
theorem v_popS {kvs : List (Key × V)} {n : Str} (S : M Rs H) (i : Nat) (e : Rs[i]? = some (pt a (.dK kvs))) (hv : valV kvs (Sum.inr n) = some v) (k : ∀ H', M (Rs.set i (pt a (.dK (dropK kvs (Sum.inr n))))) H' → Q v H') : PopV a Q (.str n) H :=
  ⟨kvs, Sum.inr n, v, S.got i e, rfl, hv, k _ (S.putAt i e)⟩
theorem v_ixK {kvs : List (Key × V)} {n : Int} (h : H a = some (.dK kvs)) (hv : valV kvs (Sum.inl n) = some v) (k : Q v H) : rIxK (.ref a) (.int n) H Q := ⟨a, v, rfl, by rw [← hv]; exact DGet.k (k := Sum.inl n) h, k⟩
theorem v_ixKS {kvs : List (Key × V)} {n : Str} (h : H a = some (.dK kvs)) (hv : valV kvs (Sum.inr n) = some v) (k : Q v H) : rIxK (.ref a) (.str n) H Q := ⟨a, v, rfl, by rw [← hv]; exact DGet.k (k := Sum.inr n) h, k⟩
theorem v_gIxK {kvs : List (Key × V)} {n : Int} (h : H a = some (.dK kvs)) (hv : valV kvs (Sum.inl n) = some v) (k : Q v H) : gIx K (.ref a) (.int n) H Q := .inr ⟨a, v, rfl, by rw [← hv]; exact DGet.k (k := Sum.inl n) h, k⟩
theorem v_gIxKS {kvs : List (Key × V)} {n : Str} (h : H a = some (.dK kvs)) (hv : valV kvs (Sum.inr n) = some v) (k : Q v H) : gIx K (.ref a) (.str n) H Q := .inr ⟨a, v, rfl, by rw [← hv]; exact DGet.k (k := Sum.inr n) h, k⟩
theorem v_put {kvs : List (Key × V)} {n : Int} {Q : Hp → Prop} (S : M Rs H) (i : Nat) (e : Rs[i]? = some (pt a (.dK kvs))) (hz : kvs.length < 100000) (k : ∀ H', M (Rs.set i (pt a (.dK (putK kvs (Sum.inl n) v)))) H' → Q H') : uSet (.ref a) (.int n) v H Q :=
  .inr ⟨a, _, rfl, DPut.k (k := Sum.inl n) (S.got i e) (Nat.lt_of_lt_of_le hz (by decide)), k _ (S.putAt i e)⟩
theorem v_putS {kvs : List (Key × V)} {n : Str} {Q : Hp → Prop} (S : M Rs H) (i : Nat) (e : Rs[i]? = some (pt a (.dK kvs))) (hz : kvs.length < 100000) (k : ∀ H', M (Rs.set i (pt a (.dK (putK kvs (Sum.inr n) v)))) H' → Q H') : uSet (.ref a) (.str n) v H Q :=
  .inr ⟨a, _, rfl, DPut.k (k := Sum.inr n) (S.got i e) (Nat.lt_of_lt_of_le hz (by decide)), k _ (S.putAt i e)⟩
theorem v_inK {kvs : List (Key × V)} {n : Int} (h : H a = some (.dK kvs)) (k : Q (.bl (valV kvs (Sum.inl n)).isSome) H) : uIn K (.int n) (.ref a) H Q := .inr (.inr (.inl ⟨a, _, rfl, DGet.k (k := Sum.inl n) h, k⟩))
theorem v_ninK {kvs : List (Key × V)} {n : Int} (h : H a = some (.dK kvs)) (k : Q (.bl (!(valV kvs (Sum.inl n)).isSome)) H) : uNotIn K (.int n) (.ref a) H Q := .inr (.inr (.inl ⟨a, _, rfl, DGet.k (k := Sum.inl n) h, k⟩))
theorem v_inKS {kvs : List (Key × V)} {n : Str} (h : H a = some (.dK kvs)) (k : Q (.bl (valV kvs (Sum.inr n)).isSome) H) : uIn K (.str n) (.ref a) H Q := .inr (.inr (.inl ⟨a, _, rfl, DGet.k (k := Sum.inr n) h, k⟩))
theorem v_ninKS {kvs : List (Key × V)} {n : Str} (h : H a = some (.dK kvs)) (k : Q (.bl (!(valV kvs (Sum.inr n)).isSome)) H) : uNotIn K (.str n) (.ref a) H Q := .inr (.inr (.inl ⟨a, _, rfl, DGet.k (k := Sum.inr n) h, k⟩))
theorem v_lenD {kvs : List (Key × V)} (h : H a = some (.dK kvs)) (k : Q (.int (kvs.length : Nat)) H) : uLen K [.ref a] H Q := .inr ⟨a, kvs, rfl, h, k⟩
theorem v_isi {x : V} {ty : Value} {c : String} {b : Bool} (h : TyX K H x ty) (e : PySem.W.kitOne K ty (.type c) = some b) (k : Q (.bl b) H) : rIsi K [x, .ty c] H Q := ⟨x, .ty c, ty, _, b, rfl, .ty c, h, e, k⟩
theorem g_callE {cls : Value} {d : Option Addr} {sp : Addr → Value → Option Addr → Hp → VK → Prop} (k : te σ H fun x H1 => x = .ref a ∧ sp a cls d H1 Q) : tCallE a cls d sp te σ H Q := k
theorem g_xg {cls : Value} {d : Option Addr} {n : Str} (k : te σ H fun x H1 => x = .ref a ∧ ∃ D dd fs v, cls = .ref D ∧ ExcC K D ∧ PySem.W.findIn K (.ref D) n = some none ∧ d = some dd ∧ H1 dd = some (.xd fs) ∧ fs.lookup n = some v ∧ Q v H1) : tXg K a cls d n te σ H Q := k
theorem v_xg {D dd : Addr} {fs : List (Str × V)} {n : Str} (c : ExcC K D) (hn : PySem.W.findIn K (.ref D) n = some none) (h : H dd = some (.xd fs)) (l : fs.lookup n = some v) (k : Q v H) :
    V.ref a = .ref a ∧ ∃ D' dd' fs' v', Value.ref D = .ref D' ∧ ExcC K D' ∧ PySem.W.findIn K (.ref D') n = some none ∧ some dd = some dd' ∧ H dd' = some (.xd fs') ∧ fs'.lookup n = some v' ∧ Q v' H := ⟨rfl, D, dd, fs, v, rfl, c, hn, rfl, h, l, k⟩
theorem v_isX {D dd B : Addr} {fs : List (Str × V)} {b : Bool} (c : ExcC K D) (h : H dd = some (.xd fs)) (e : PySem.W.kitOne K (.ref D) (.ref B) = some b) (k : Q (.bl b) H) : uIsX K a (.ref D) (some dd) [.ref a, .ref B] H Q :=
  .inl ⟨.ref B, .ref B, b, rfl, ⟨D, rfl, c, .inr ⟨dd, fs, rfl, h⟩⟩, .own B, e, k⟩
theorem v_isXT {D dd : Addr} {fs : List (Str × V)} {B : String} {b : Bool} (c : ExcC K D) (h : H dd = some (.xd fs)) (e : PySem.W.kitOne K (.ref D) (.type B) = some b) (k : Q (.bl b) H) : uIsX K a (.ref D) (some dd) [.ref a, .ty B] H Q :=
  .inl ⟨.ty B, .type B, b, rfl, ⟨D, rfl, c, .inr ⟨dd, fs, rfl, h⟩⟩, .ty B, e, k⟩
theorem g_try {tb : WX → TS} {l : List Hd} (k : tb (wTry K W D l) D σ H) : tTry K W tb l D σ H := k
end
/-! ### sorted -/
theorem sorted_eq : ∀ {xs ys : List Int}, xs.Perm ys → xs.Pairwise (· ≤ ·) → ys.Pairwise (· ≤ ·) → xs = ys
  | [], ys, p, _, _ => (List.nil_perm.mp p).symm
  | x :: xs, [], p, _, _ => absurd p.length_eq (by simp)
  | x :: xs, y :: ys, p, h1, h2 => by
    obtain ⟨a1, a2⟩ := List.pairwise_cons.mp h1
    obtain ⟨b1, b2⟩ := List.pairwise_cons.mp h2
    have e : x = y := by
      have m1 : y ∈ x :: xs := p.mem_iff.mpr List.mem_cons_self
      have m2 : x ∈ y :: ys := p.mem_iff.mp List.mem_cons_self
      rcases List.mem_cons.mp m1 with z | z
      · exact z.symm
      · rcases List.mem_cons.mp m2 with w | w
        · exact w
        · have := a1 y z
          have := b1 x w
          omega
    subst e
    rw [sorted_eq (List.Perm.cons_inv p) a2 b2]
def srt (ks : List Int) : List Int := ks.mergeSort (fun a b => decide (a ≤ b))
theorem srt_perm (ks : List Int) : (srt ks).Perm ks := List.mergeSort_perm _ _
theorem srt_sorted (ks : List Int) : (srt ks).Pairwise (· ≤ ·) := by
  have h := List.pairwise_mergeSort (le := fun a b : Int => decide (a ≤ b)) (by intro a b c h1 h2; simp at *; omega) (by intro a b; simp; omega) ks
  exact h.imp fun z => by simpa using z
theorem srt_eq {xs ks : List Int} (p : xs.Perm ks) (h : xs.Pairwise (· ≤ ·)) : xs = srt ks := sorted_eq (p.trans (srt_perm ks).symm) h (srt_sorted ks)
theorem v_sortDI {H : Hp} {Q : VK} {Rs : List Res} {a : Addr} {kvs : List (Key × V)} {ks : List Int} (S : M Rs H) (h : H a = some (.dK kvs)) (e : kvs.map (·.1) = ks.map Sum.inl) (hz : ks.length < 64) (k : ∀ p H', M (pt p (.lst ((srt ks).map V.int)) :: Rs) H' → Q (.ref p) H') :
    rSortDI [.ref a] H Q := by
  refine ⟨a, kvs, ks, rfl, .inl h, e, hz, fun ys p hp hs hn => ?_⟩
  rw [srt_eq hp hs]
  exact k p _ (S.new hn)
theorem v_dictD {H : Hp} {Q : VK} {Rs : List Res} {a : Addr} {kvs : List (Key × V)} (S : M Rs H) (h : H a = some (.dK kvs)) (k : ∀ p H', M (pt p (.dK kvs) :: Rs) H' → Q (.ref p) H') : rDictD [.ref a] H Q := ⟨a, kvs, rfl, .inl h, fun p hn => k p _ (S.new hn)⟩
theorem Ent.tl {Rs : List Res} {R : Res} {φ : Hp → Prop} (h : Ent Rs φ) : Ent (R :: Rs) φ := fun H S => h H S.tl
theorem Ent.tl2 {Rs : List Res} {R R' : Res} {φ : Hp → Prop} (h : Ent Rs φ) : Ent (R :: R' :: Rs) φ := h.tl.tl
theorem Ent.imp {Rs : List Res} {φ ψ : Hp → Prop} (h : Ent Rs φ) (i : ∀ H, φ H → ψ H) : Ent Rs ψ := fun H S => i H (h H S)
theorem M.new' {Rs : List Res} {H : Hp} (S : M Rs H) : ∀ p o, H p = none → M (pt p o :: Rs) (upd H p o) := fun _ _ h => S.new h
end RC

namespace RC
open PySem PySem.Spec PyProof.Rows L2
/-- int(truth) -/
def rIntB : List V → Hp → VK → Prop := fun xs H Q => ∃ b : Bool, xs = [.bl b] ∧ Q (.int (if b then 1 else 0)) H
theorem cr_intB {X : Cx} : CallR X (.type "int") rIntB := by
  intro pins s σ H xs us Q I rs h
  obtain ⟨b, rfl, h⟩ := h
  cases rs with
  | cons r1 rs =>
    cases rs
    cases r1
    exact call_int_1 (meets_int_new_bool b) (show (Made.int _).post _ s from ⟨rfl, ⟨.int _, H, I.tok _, ⟨_, rfl⟩, h⟩⟩)
theorem v_intB {b : Bool} {H : Hp} {Q : VK} (k : Q (.int (if b then 1 else 0)) H) : rIntB [.bl b] H Q := ⟨b, rfl, k⟩
end RC

namespace RC
open PySem PySem.Spec PyProof.Rows L2
/-! ### data of any depth, dicts too -/
def kD : Key → PyData
  | .inl i => .int i
  | .inr x => .str x
mutual
inductive Dq (K : PySem.W.Frag) (H : Hp) : V → PyData → Prop
  | non : Dq K H .non .none
  | bl (b : Bool) : Dq K H (.bl b) (.bool b)
  | int (i : Int) : Dq K H (.int i) (.int i)
  | str (x : Str) : Dq K H (.str x) (.str x)
  | lst {a : Addr} {vs : List V} {ds : List PyData} (h : SqL K H a vs) (q : DqAll K H vs ds) : Dq K H (.ref a) (.list ds)
  | tup {a : Addr} {vs : List V} {ds : List PyData} (h : SqT K H a vs) (q : DqAll K H vs ds) : Dq K H (.ref a) (.tuple ds)
  | dct {a : Addr} {kvs : List (Key × V)} {ds : List (PyData × PyData)} (h : H a = some (.dK kvs)) (q : DqKv K H kvs ds) : Dq K H (.ref a) (.dict ds)
inductive DqAll (K : PySem.W.Frag) (H : Hp) : List V → List PyData → Prop
  | nil : DqAll K H [] []
  | cons {v : V} {vs : List V} {d : PyData} {ds : List PyData} (h : Dq K H v d) (r : DqAll K H vs ds) : DqAll K H (v :: vs) (d :: ds)
inductive DqKv (K : PySem.W.Frag) (H : Hp) : List (Key × V) → List (PyData × PyData) → Prop
  | nil : DqKv K H [] []
  | cons {k : Key} {v : V} {vs : List (Key × V)} {d : PyData} {ds : List (PyData × PyData)} (h : Dq K H v d) (r : DqKv K H vs ds) : DqKv K H ((k, v) :: vs) ((kD k, d) :: ds)
end
mutual
theorem Dq_ext {K : PySem.W.Frag} {H H' : Hp} (e : Ext H H') : ∀ {v : V} {d : PyData}, Dq K H v d → Dq K H' v d
  | _, _, .non => .non
  | _, _, .bl b => .bl b
  | _, _, .int i => .int i
  | _, _, .str x => .str x
  | _, _, .lst h q => .lst (e.sqL h) (DqAll_ext e q)
  | _, _, .tup h q => .tup (e.sqT h) (DqAll_ext e q)
  | _, _, .dct h q => .dct (e _ _ h) (DqKv_ext e q)
theorem DqAll_ext {K : PySem.W.Frag} {H H' : Hp} (e : Ext H H') : ∀ {vs : List V} {ds : List PyData}, DqAll K H vs ds → DqAll K H' vs ds
  | _, _, .nil => .nil
  | _, _, .cons h r => .cons (Dq_ext e h) (DqAll_ext e r)
theorem DqKv_ext {K : PySem.W.Frag} {H H' : Hp} (e : Ext H H') : ∀ {vs : List (Key × V)} {ds : List (PyData × PyData)}, DqKv K H vs ds → DqKv K H' vs ds
  | _, _, .nil => .nil
  | _, _, .cons h r => .cons (Dq_ext e h) (DqKv_ext e r)
end
mutual
theorem Dq.dp {K : PySem.W.Frag} {H : Hp} : ∀ {v : V} {d : PyData}, Dq K H v d → d.hasDict = false → Dp K H v d
  | _, _, .non, _ => .non
  | _, _, .bl b, _ => .bl b
  | _, _, .int i, _ => .int i
  | _, _, .str x, _ => .str x
  | _, _, .lst h q, n => .lst h (DqAll.dp q (by simpa only [PyData.hasDict] using n))
  | _, _, .tup h q, n => .tup h (DqAll.dp q (by simpa only [PyData.hasDict] using n))
  | _, _, .dct h q, n => by simp [PyData.hasDict] at n
theorem DqAll.dp {K : PySem.W.Frag} {H : Hp} : ∀ {vs : List V} {ds : List PyData}, DqAll K H vs ds → PyData.hasDictAll ds = false → DpAll K H vs ds
  | _, _, .nil, _ => .nil
  | _, _, .cons h r, n => by
    simp only [PyData.hasDictAll, Bool.or_eq_false_iff] at n
    exact .cons (Dq.dp h n.1) (DqAll.dp r n.2)
end
mutual
theorem Dp.dq {K : PySem.W.Frag} {H : Hp} : ∀ {v : V} {d : PyData}, Dp K H v d → Dq K H v d
  | _, _, .non => .non
  | _, _, .bl b => .bl b
  | _, _, .int i => .int i
  | _, _, .str x => .str x
  | _, _, .lst h q => .lst h (DpAll.dq q)
  | _, _, .tup h q => .tup h (DpAll.dq q)
theorem DpAll.dq {K : PySem.W.Frag} {H : Hp} : ∀ {vs : List V} {ds : List PyData}, DpAll K H vs ds → DqAll K H vs ds
  | _, _, .nil => .nil
  | _, _, .cons h r => .cons (Dp.dq h) (DpAll.dq r)
end
/-! ### encoders -/
abbrev eI : Int → PyData := PyData.int
abbrev eB : Bool → PyData := PyData.bool
abbrev eS : Str → PyData := PyData.str
abbrev eN : Unit → PyData := fun _ => PyData.none
abbrev eA : PyData → PyData := id
def eL {α : Type} (e : α → PyData) (xs : List α) : PyData := .list (xs.map e)
/-- a tuple of things of one kind -/
def eV {α : Type} (e : α → PyData) (xs : List α) : PyData := .tuple (xs.map e)
def eP {α β : Type} (e : α → PyData) (f : β → PyData) (x : α × β) : PyData := .tuple [e x.1, f x.2]
def eT3 {α β γ : Type} (e : α → PyData) (f : β → PyData) (g : γ → PyData) (x : α × β × γ) : PyData := .tuple [e x.1, f x.2.1, g x.2.2]
def eT4 {α β γ δ : Type} (e : α → PyData) (f : β → PyData) (g : γ → PyData) (h : δ → PyData) (x : α × β × γ × δ) : PyData := .tuple [e x.1, f x.2.1, g x.2.2.1, h x.2.2.2]
def eO {α : Type} (e : α → PyData) : Option α → PyData
  | none => .none
  | some x => e x
abbrev iI : Int → Key := Sum.inl
abbrev iS : Str → Key := Sum.inr
def eD {κ α : Type} (ik : κ → Key) (e : α → PyData) (m : List (κ × α)) : PyData := .dict (m.map fun p => (kD (ik p.1), e p.2))
/-! ### resources -/
def da (K : PySem.W.Frag) (v : V) (d : PyData) : Res := ⟨fun F l => l = [] ∧ Dq K F v d, fun _ _ _ e h => ⟨h.1, Dq_ext e h.2⟩⟩
def daA (K : PySem.W.Frag) (vs : List V) (ds : List PyData) : Res := ⟨fun F l => l = [] ∧ DqAll K F vs ds, fun _ _ _ e h => ⟨h.1, DqAll_ext e h.2⟩⟩
def daK (K : PySem.W.Frag) (vs : List (Key × V)) (ds : List (PyData × PyData)) : Res := ⟨fun F l => l = [] ∧ DqKv K F vs ds, fun _ _ _ e h => ⟨h.1, DqKv_ext e h.2⟩⟩
/-- what the resources bring, for ever -/
def EnF (Rs : List Res) (φ : Hp → Prop) : Prop := ∀ F L, Sat F Rs L → φ F
theorem Sat.get {F : Hp} : ∀ {Rs : List Res} {L : List Cell} (i : Nat) {R : Res}, Sat F Rs L → Rs[i]? = some R → ∃ l, R.on F l
  | [], L, i, R, _, e => by simp at e
  | S :: Rs, L, 0, R, ⟨l1, l2, _, a, _⟩, e => by
    have e : S = R := Option.some.inj e
    subst e
    exact ⟨l1, a⟩
  | S :: Rs, L, i + 1, R, ⟨l1, l2, _, _, b⟩, e => Sat.get i b (by simpa using e)
section
variable {K : PySem.W.Frag} {Rs R0 : List Res} {H : Hp} {v : V} {d : PyData} {vs : List V} {ds : List PyData} {φ ψ : Hp → Prop}
theorem M.gotA (S : M Rs H) (i : Nat) (e : Rs[i]? = some (da K v d)) : Dq K H v d := by
  obtain ⟨F, L, s, m⟩ := S
  obtain ⟨l, h⟩ := s.get i e
  exact Dq_ext m.ex h.2
theorem EnF.at (i : Nat) (e : Rs[i]? = some (da K v d)) : EnF Rs (fun F => Dq K F v d) := fun F L s => by
  obtain ⟨l, h⟩ := s.get i e
  exact h.2
theorem EnF.atF {p : Addr} {o : HO} (i : Nat) (e : Rs[i]? = some (fz p o)) : EnF Rs (fun F => F p = some o) := fun F L s => by
  obtain ⟨l, h⟩ := s.get i e
  exact h.2
theorem EnF.all (h : ∀ F, φ F) : EnF Rs φ := fun F _ _ => h F
theorem EnF.imp (h : EnF Rs φ) (k : ∀ F, φ F → ψ F) : EnF Rs ψ := fun F L s => k F (h F L s)
theorem EnF.tl {R : Res} (h : EnF Rs φ) : EnF (R :: Rs) φ := fun F L ⟨_, l2, _, _, b⟩ => h F l2 b
theorem EnF.nilA : EnF Rs (fun F => DqAll K F [] []) := fun _ _ _ => .nil
theorem EnF.consA (h : EnF Rs (fun F => Dq K F v d)) (r : EnF Rs (fun F => DqAll K F vs ds)) : EnF Rs (fun F => DqAll K F (v :: vs) (d :: ds)) := fun F L s => .cons (h F L s) (r F L s)
theorem M.of (S : M Rs H) (h : EnF Rs φ) (mono : ∀ F, Ext F H → φ F → ψ H) : ψ H := by
  obtain ⟨F, L, s, m⟩ := S
  exact mono F m.ex (h F L s)
theorem M.dq (S : M Rs H) (h : EnF Rs (fun F => Dq K F v d)) : Dq K H v d := by
  obtain ⟨F, L, s, m⟩ := S
  exact Dq_ext m.ex (h F L s)
/-- one more fact that stands for ever -/
theorem M.addA (S : M Rs H) (h : EnF Rs (fun F => Dq K F v d)) : M (da K v d :: Rs) H := by
  obtain ⟨F, L, s, m⟩ := S
  exact ⟨F, L, ⟨[], L, rfl, ⟨rfl, h F L s⟩, s⟩, m⟩
/-- a new list, a new tuple, is data from now on -/
theorem M.fixQ {p : Addr} (S : M (pt p (.lst vs) :: Rs) H) (h : EnF Rs (fun F => DqAll K F vs ds)) : M (da K (.ref p) (.list ds) :: Rs) H := by
  obtain ⟨F, L, ⟨l1, l2, rfl, ⟨rfl, fp⟩, s⟩, m⟩ := S.fix
  obtain ⟨F0, L0, ⟨l3, l4, rfl, e0, s0⟩, m0⟩ := S
  have s1 := m0
  refine ⟨upd F0 p (.lst vs), l4, ⟨[], l4, rfl, ⟨rfl, .lst (.inl (.inl upd_same)) ?_⟩, ?_⟩, ?_⟩
  · have hn : F0 p = none := by
      subst e0
      exact (m0.own (p, .lst vs) (by simp)).2
    exact DqAll_ext (Ext.new hn) (h F0 l4 s0)
  · have hn : F0 p = none := by
      subst e0
      exact (m0.own (p, .lst vs) (by simp)).2
    exact s0.mono (Ext.new hn)
  · subst e0
    have hp := m0.own (p, .lst vs) (by simp)
    have nd := m0.nd
    rw [List.map_append] at nd
    have nd2 : ((p :: l4.map (·.1)) : List Addr).Nodup := nd
    have np := (List.nodup_cons.mp nd2).1
    refine ⟨fun a u e => ?_, fun c hc => ?_, (List.nodup_cons.mp nd2).2⟩
    · by_cases z : a = p
      · subst z
        rw [upd_same] at e
        cases e
        exact hp.1
      · rw [upd_ne z] at e
        exact m0.ex _ _ e
    · have q := m0.own c (List.mem_append_right _ hc)
      refine ⟨q.1, ?_⟩
      have : c.1 ≠ p := fun z => np (List.mem_map.mpr ⟨c, hc, z⟩)
      rw [upd_ne this]
      exact q.2
end
end RC

namespace RC
open PySem PySem.Spec PyProof.Rows L2
/-! ### plain code, without a heap: wishes of what is told -/
def forD {α β : Type} (f : α → β → (β → Prop) → Prop) : List α → β → (β → Prop) → Prop
  | [], s, k => k s
  | x :: xs, s, k => f x s fun s' => forD f xs s' k
/-- a comprehension: none where it is left out -/
def lcD {α β : Type} (f : α → (Option β → Prop) → Prop) : List α → List β → (List β → Prop) → Prop
  | [], acc, k => k acc
  | x :: xs, acc, k => f x fun y => lcD f xs (acc ++ y.toList) k
def jn {β : Type} (m : (β → Prop) → Prop) (k : β → Prop) : Prop := m k
def whN {β : Type} (c : β → (Bool → Prop) → Prop) (f : β → (β → Prop) → Prop) : Nat → β → (β → Prop) → Prop
  | 0, _, _ => False
  | n + 1, s, k => c s fun b => if b = true then f s fun s' => whN c f n s' k else k s
def whD {β : Type} (c : β → (Bool → Prop) → Prop) (f : β → (β → Prop) → Prop) (s : β) (k : β → Prop) : Prop := ∃ n, whN c f n s k
abbrev sno {α : Type} (xs : List α) (x : α) : List α := xs ++ [x]
abbrev cat {α : Type} (xs ys : List α) : List α := xs ++ ys
/-- a draw -/
def takeD (n : Int) (k : Int → Prop) : Prop := (0 < n ∧ n < 2 ^ 62) ∧ ∀ v, 0 ≤ v → v < n → k v
def rng (n : Int) : List Int := (List.range n.toNat).map fun i => (0 : Int) + (i : Nat)
def cutL {α : Type} (xs : List α) (lo hi : Option Int) : List α := (xs.drop (HT.sIx xs.length 0 lo)).take (HT.sIx xs.length xs.length hi - HT.sIx xs.length 0 lo)
section
variable {K : PySem.W.Frag} {σ : L2.St} {H : Hp} {Q : VK} {D : Ends} {Rs : List Res} {E : XK} {t u : TS} {α β : Type}
theorem v_iff {b : Bool} {A B X Y : Prop} (hf : if b = true then X else Y) (h1 : b = true → X → A) (h2 : b = false → Y → B) : if b = true then A else B := by
  cases b with
  | true => exact h1 rfl (by simpa using hf)
  | false => exact h2 rfl (by simpa using hf)
theorem v_andB {b1 b2 : Bool} {P : Bool → Prop} {X : Prop} (hx : P b2 → X) (hq : P (b1 && b2)) : if b1 = true then X else P false := by
  cases b1 with
  | true => exact hx hq
  | false => exact hq
theorem v_orB {b1 b2 : Bool} {P : Bool → Prop} {X : Prop} (hx : P b2 → X) (hq : P (b1 || b2)) : if b1 = true then P true else X := by
  cases b1 with
  | true => exact hq
  | false => exact hx hq
theorem jn_cut {m : (β → Prop) → Prop} {KK : β → Prop} (hf : jn m KK) (Inv : β → L2.St → Hp → Prop)
    (h1 : ∀ (kk : β → Prop) (N : L2.St → Hp → Prop), (∀ s σ H, kk s → Inv s σ H → N σ H) → m kk → t ⟨N, D.rt, D.bk, D.ct⟩ σ H)
    (h2 : ∀ s σ H, KK s → Inv s σ H → u D σ H) : tSeq t u D σ H := h1 KK (u D) h2 hf
theorem tst_cut {φ : (Bool → Hp → Prop) → Prop} {P : Bool → Hp → Prop} {m : (Bool → Prop) → Prop} {KK : Bool → Prop} (hf : jn m KK) (Inv : Hp → Prop)
    (h1 : ∀ (kk : Bool → Prop) (P' : Bool → Hp → Prop), (∀ c H, kk c → Inv H → P' c H) → m kk → φ P') (h2 : ∀ c H, KK c → Inv H → P c H) : φ P := h1 KK P h2 hf
theorem val_cut {φ : VK → Prop} {P : VK} {m : (β → Prop) → Prop} {KK : β → Prop} (hf : jn m KK) (Inv : β → V → Hp → Prop)
    (h1 : ∀ (kk : β → Prop) (P' : VK), (∀ x v H, kk x → Inv x v H → P' v H) → m kk → φ P') (h2 : ∀ x v H, KK x → Inv x v H → P v H) : φ P := h1 KK P h2 hf
/-! lists that are walked -/
theorem M.openQ {v : V} {ds : List PyData} (S : M (da K v (.list ds) :: Rs) H) : ∃ a vs, v = .ref a ∧ M (rdL K a vs :: daA K vs ds :: Rs) H := by
  obtain ⟨F, L, ⟨l1, l2, rfl, ⟨rfl, e⟩, b⟩, m⟩ := S
  cases e with
  | lst h1 h2 => exact ⟨_, _, rfl, F, l2, ⟨[], l2, rfl, ⟨rfl, h1⟩, [], l2, rfl, ⟨rfl, h2⟩, b⟩, m⟩
theorem DqAll.len : ∀ {vs : List V} {ds : List PyData}, DqAll K H vs ds → vs.length = ds.length
  | _, _, .nil => rfl
  | _, _, .cons _ r => by rw [List.length_cons, List.length_cons, DqAll.len r]
theorem DqAll.at : ∀ {vs : List V} {ds : List PyData}, DqAll K H vs ds → ∀ {i : Nat} {v : V} {d : PyData}, vs[i]? = some v → ds[i]? = some d → Dq K H v d
  | _, _, .nil, i, v, d, h, _ => by simp at h
  | _, _, .cons a r, 0, v, d, h, g => by
    cases (Option.some.inj (show some _ = some v from h))
    cases (Option.some.inj (show some _ = some d from g))
    exact a
  | _, _, .cons a r, i + 1, v, d, h, g => DqAll.at r (by simpa using h) (by simpa using g)
theorem M.gotAA {vs : List V} {ds : List PyData} (S : M Rs H) (i : Nat) (e : Rs[i]? = some (daA K vs ds)) : DqAll K H vs ds := by
  obtain ⟨F, L, s, m⟩ := S
  obtain ⟨l, h⟩ := s.get i e
  exact DqAll_ext m.ex h.2
/-- one of them -/
theorem M.elA {e : α → PyData} {vs : List V} {xs : List α} {i : Nat} {v : V} {x : α} (S : M Rs H) (j : Nat) (hj : Rs[j]? = some (daA K vs (xs.map e))) (hv : vs[i]? = some v) (hx : xs[i]? = some x) : M (da K v (e x) :: Rs) H :=
  S.addA fun F L s => by
    obtain ⟨l, h⟩ := s.get j hj
    exact h.2.at hv (by rw [List.getElem?_map, hx]; rfl)
theorem for_lst {F : α → β → (β → Prop) → Prop} {e : α → PyData} {xs : List α} {vs : List V} {s0 : β} {KK : β → Prop} {a : Addr} {g : TG} {tb : TS} (hf : forD F xs s0 KK) (Inv : β → L2.St → Hp → Prop) (h0 : Inv s0 σ H)
    (hrd : ∀ s σ H, Inv s σ H → SqL K H a vs ∧ DqAll K H vs (xs.map e))
    (hs : ∀ (i : Nat) v x s σ H (kk : β → Prop), Inv s σ H → vs[i]? = some v → xs[i]? = some x → F x s kk → g v σ H fun σ2 H2 => tb ⟨fun σ H => ∃ s', kk s' ∧ Inv s' σ H, D.rt, D.nx, fun σ H => ∃ s', kk s' ∧ Inv s' σ H⟩ σ2 H2)
    (hd : ∀ s σ H, KK s → Inv s σ H → D.nx σ H) : ForW (Itl K a) g tb D σ H := by
  have hl : vs.length = xs.length := by
    have := (hrd s0 σ H h0).2.len
    rwa [List.length_map] at this
  refine for_W walk_list (fun i σ H => ∃ s, forD F (xs.drop i) s KK ∧ Inv s σ H) ⟨s0, by simpa using hf, h0⟩ (fun i σ H _ ⟨s, _, h⟩ => (hrd s σ H h).1) ?_ ?_
  · rintro i v σ H H' hi ⟨s, hf, h⟩ ⟨rfl, hv⟩
    have hi2 : i < xs.length := by omega
    rw [List.drop_eq_getElem_cons hi2] at hf
    exact hs i v _ s σ H' _ h hv (List.getElem?_eq_getElem hi2) hf
  · rintro σ H ⟨s, hf, h⟩
    rw [hl, List.drop_length] at hf
    exact hd s σ H hf h
theorem rng_len (n : Int) : (rng n).length = n.toNat := by simp [rng]
theorem rng_get {n : Int} {i : Nat} (h : i < n.toNat) : (rng n)[i]? = some ((0 : Int) + (i : Nat)) := by
  unfold rng
  rw [List.getElem?_map, List.getElem?_range h]
  rfl
theorem for_rng {F : Int → β → (β → Prop) → Prop} {n : Int} {s0 : β} {KK : β → Prop} {g : TG} {tb : TS} (hf : forD F (rng n) s0 KK) (Inv : β → L2.St → Hp → Prop) (h0 : Inv s0 σ H)
    (hs : ∀ x s σ H (kk : β → Prop), Inv s σ H → F x s kk → g (.int x) σ H fun σ2 H2 => tb ⟨fun σ H => ∃ s', kk s' ∧ Inv s' σ H, D.rt, D.nx, fun σ H => ∃ s', kk s' ∧ Inv s' σ H⟩ σ2 H2)
    (hd : ∀ s σ H, KK s → Inv s σ H → D.nx σ H) : ForW (Itr 0 n.toNat) g tb D σ H := by
  refine for_W walk_range (fun i σ H => ∃ s, forD F ((rng n).drop i) s KK ∧ Inv s σ H) ⟨s0, by simpa using hf, h0⟩ (fun _ _ _ _ _ => trivial) ?_ ?_
  · rintro i v σ H H' hi ⟨s, hf, h⟩ ⟨rfl, rfl⟩
    have hi2 : i < (rng n).length := by rw [rng_len]; exact hi
    rw [List.drop_eq_getElem_cons hi2] at hf
    have e : (rng n)[i] = (0 : Int) + (i : Nat) := Option.some.inj ((List.getElem?_eq_getElem hi2).symm.trans (rng_get hi))
    rw [e] at hf
    exact hs _ s σ H' _ h hf
  · rintro σ H ⟨s, hf, h⟩
    rw [← rng_len, List.drop_length] at hf
    exact hd s σ H hf h
/-- the list of a comprehension, so far -/
def acR (K : PySem.W.Frag) (E : Addr) (ds : List PyData) : Res := exi fun vs => sp2 (pt E (.lst vs)) (daA K vs ds)
theorem acR_nil {E : Addr} (S : M (pt E (.lst []) :: Rs) H) : M (acR K E [] :: Rs) H := by
  obtain ⟨F, L, ⟨l1, l2, rfl, a, b⟩, m⟩ := S
  exact ⟨F, _, ⟨l1, l2, rfl, ⟨[], l1, [], by simp, a, rfl, .nil⟩, b⟩, m⟩
theorem acR_fix {E : Addr} {ds : List PyData} (S : M (acR K E ds :: Rs) H) : M (da K (.ref E) (.list ds) :: Rs) H := by
  obtain ⟨vs, S⟩ := S.ex
  obtain ⟨F, L, ⟨l1, l2, rfl, ⟨rfl, fp⟩, l3, l4, rfl, ⟨rfl, q⟩, b⟩, m⟩ := S.sp.fix
  exact ⟨F, l4, ⟨[], l4, rfl, ⟨rfl, .lst (.inl (.inl fp)) q⟩, b⟩, m⟩
theorem DqAll.snoc {v : V} {d : PyData} (h : Dq K H v d) : ∀ {vs : List V} {ds : List PyData}, DqAll K H vs ds → DqAll K H (vs ++ [v]) (ds ++ [d])
  | _, _, .nil => .cons h .nil
  | _, _, .cons a r => .cons a (DqAll.snoc h r)
/-- one more -/
theorem acR_put {N : Hp → Prop} {E : Addr} {ds : List PyData} {y : V} {d : PyData} (S : M Rs H) (j : Nat) (hj : Rs[j]? = some (acR K E ds)) (h : EnF Rs (fun F => Dq K F y d)) (hz : ds.length < 100000) (k : ∀ H', M (acR K E (ds ++ [d]) :: Rs.eraseIdx j) H' → N H') : LcK N E y H := by
  have S0 : M (da K y d :: Rs) H := S.addA h
  have S1 : M (acR K E ds :: da K y d :: Rs.eraseIdx j) H := (S0.at (j + 1) (by simpa using hj))
  obtain ⟨vs, S2⟩ := S1.ex
  have S3 := S2.sp
  have hl : vs.length = ds.length := (S3.gotAA 1 rfl).len
  refine ⟨vs, S3.got 0 rfl, Nat.lt_of_lt_of_le (by rw [hl]; exact hz) (by decide), k _ ?_⟩
  have S4 := S3.putAt (o' := .lst (vs ++ [y])) 0 rfl
  obtain ⟨F, L, ⟨l1, l2, rfl, a, l3, l4, rfl, ⟨rfl, q⟩, l5, l6, rfl, ⟨rfl, q2⟩, b⟩, m⟩ := S4
  exact ⟨F, _, ⟨l1, l6, by simp, ⟨vs ++ [y], l1, [], by simp, a, rfl, DqAll.snoc q2 q⟩, b⟩, m⟩
theorem lc_lst {te : TE} {tt : TT} {g : TG} {ws : List Nat} {F : α → (Option β → Prop) → Prop} {e : α → PyData} {e' : β → PyData} {xs : List α} {vs : List V} {KK : List β → Prop} {a : Addr} (hf : xs.length ≤ 100000 ∧ lcD F xs [] KK) (S : M Rs H)
    (hrd : ∀ H, M Rs H → SqL K H a vs ∧ DqAll K H vs (xs.map e))
    (hs : ∀ (i : Nat) v x (acc : List β) E H (kk : Option β → Prop) (N : Hp → Prop), (acc.map e').length < 100000 → M (acR K E (acc.map e') :: Rs) H → vs[i]? = some v → xs[i]? = some x → F x kk →
      (∀ y H, kk (some y) → M (acR K E (acc.map e' ++ [e' y]) :: Rs) H → N H) → (∀ H, kk none → M (acR K E (acc.map e') :: Rs) H → N H) → g v (wipe σ ws) H fun σ2 H2 => wipe σ2 ws = wipe σ ws ∧ tt σ2 H2 fun b H3 =>
      if b = true then te σ2 H3 (LcK N E) else N H3)
    (hd : ∀ E (acc : List β) H, KK acc → M (acR K E (acc.map e') :: Rs) H → Q (.ref E) H) : LcW (Itl K a) g tt te ws σ Q H := by
  obtain ⟨hz, hf⟩ := hf
  have hl : vs.length = xs.length := by
    have := (hrd H S).2.len
    rwa [List.length_map] at this
  refine lc_X walk_list (fun E i H => ∃ acc, lcD F (xs.drop i) acc KK ∧ acc.length ≤ i ∧ M (acR K E (acc.map e') :: Rs) H) (fun E hE => ⟨[], by simpa using hf, Nat.le_refl _, acR_nil (S.new hE)⟩) (fun E i H _ ⟨acc, _, _, S⟩ => (hrd H S.tl).1) ?_ ?_
  · rintro E i v H H' hi ⟨acc, hf, ha, S⟩ ⟨rfl, hv⟩
    have hi2 : i < xs.length := by omega
    rw [List.drop_eq_getElem_cons hi2] at hf
    refine hs i v _ acc E H' _ _ (by rw [List.length_map]; omega) S hv (List.getElem?_eq_getElem hi2) hf (fun y H hk S => ⟨acc ++ [y], hk, by rw [List.length_append]; simpa using ha, by rw [List.map_append]; exact S⟩) (fun H hk S => ⟨acc, ?_, by omega, S⟩)
    simpa using hk
  · rintro E H ⟨acc, hf, ha, S⟩
    rw [hl, List.drop_length] at hf
    exact hd E acc H hf S
theorem lc_rng {te : TE} {tt : TT} {g : TG} {ws : List Nat} {F : Int → (Option β → Prop) → Prop} {e' : β → PyData} {n : Int} {KK : List β → Prop} (hf : (rng n).length ≤ 100000 ∧ lcD F (rng n) [] KK) (S : M Rs H)
    (hs : ∀ x (acc : List β) E H (kk : Option β → Prop) (N : Hp → Prop), (acc.map e').length < 100000 → M (acR K E (acc.map e') :: Rs) H → F x kk →
      (∀ y H, kk (some y) → M (acR K E (acc.map e' ++ [e' y]) :: Rs) H → N H) → (∀ H, kk none → M (acR K E (acc.map e') :: Rs) H → N H) → g (.int x) (wipe σ ws) H fun σ2 H2 => wipe σ2 ws = wipe σ ws ∧ tt σ2 H2 fun b H3 =>
      if b = true then te σ2 H3 (LcK N E) else N H3)
    (hd : ∀ E (acc : List β) H, KK acc → M (acR K E (acc.map e') :: Rs) H → Q (.ref E) H) : LcW (Itr 0 n.toNat) g tt te ws σ Q H := by
  obtain ⟨hz, hf⟩ := hf
  rw [rng_len] at hz
  refine lc_X walk_range (fun E i H => ∃ acc, lcD F ((rng n).drop i) acc KK ∧ acc.length ≤ i ∧ M (acR K E (acc.map e') :: Rs) H) (fun E hE => ⟨[], by simpa using hf, Nat.le_refl _, acR_nil (S.new hE)⟩) (fun E i H _ _ => trivial) ?_ ?_
  · rintro E i v H H' hi ⟨acc, hf, ha, S⟩ ⟨rfl, rfl⟩
    have hi2 : i < (rng n).length := by rw [rng_len]; exact hi
    rw [List.drop_eq_getElem_cons hi2] at hf
    have e : (rng n)[i] = (0 : Int) + (i : Nat) := Option.some.inj ((List.getElem?_eq_getElem hi2).symm.trans (rng_get hi))
    rw [e] at hf
    refine hs _ acc E H' _ _ (by rw [List.length_map]; omega) S hf (fun y H hk S => ⟨acc ++ [y], hk, by rw [List.length_append]; simpa using ha, by rw [List.map_append]; exact S⟩) (fun H hk S => ⟨acc, ?_, by omega, S⟩)
    simpa using hk
  · rintro E H ⟨acc, hf, ha, S⟩
    rw [← rng_len, List.drop_length] at hf
    exact hd E acc H hf S
/-! ### displays, items, slices, sums, copies -/
theorem M.fixG {p : Addr} {o : HO} {R : Res} {φ : Hp → Prop} (S : M (pt p o :: Rs) H) (h : EnF Rs φ) (k : ∀ F, φ F → F p = some o → R.on F []) : M (R :: Rs) H := by
  obtain ⟨F, L, ⟨l1, l2, rfl, ⟨rfl, fp⟩, s⟩, m⟩ := S.fix
  exact ⟨F, l2, ⟨[], l2, rfl, k F (h F l2 s) fp, s⟩, m⟩
theorem v_lstq {vs : List V} {ds : List PyData} (S : M Rs H) (h : EnF Rs (fun F => DqAll K F vs ds)) (hn : vs.length ≤ 100000) (k : ∀ p H', M (da K (.ref p) (.list ds) :: Rs) H' → Q (.ref p) H') : LstK Q vs H :=
  v_lst S hn fun p H' S' => k p H' (S'.fixG h fun F q fp => ⟨rfl, .lst (.inl (.inl fp)) q⟩)
theorem M.own {p : Addr} {vs : List V} {ds : List PyData} (S : M (pt p (.lst vs) :: Rs) H) (h : EnF Rs (fun F => DqAll K F vs ds)) : M (acR K p ds :: Rs) H := by
  obtain ⟨F, L, ⟨l1, l2, rfl, a, b⟩, m⟩ := S
  exact ⟨F, _, ⟨l1, l2, rfl, ⟨vs, l1, [], by simp, a, rfl, h F l2 b⟩, b⟩, m⟩
theorem v_lsto {vs : List V} {ds : List PyData} (S : M Rs H) (h : EnF Rs (fun F => DqAll K F vs ds)) (hn : vs.length ≤ 100000) (k : ∀ p H', M (acR K p ds :: Rs) H' → Q (.ref p) H') : LstK Q vs H :=
  v_lst S hn fun p H' S' => k p H' (S'.own h)
theorem v_tupq {vs : List V} {ds : List PyData} (S : M Rs H) (h : EnF Rs (fun F => DqAll K F vs ds)) (hn : vs.length ≤ 100000) (k : ∀ p H', M (da K (.ref p) (.tuple ds) :: Rs) H' → Q (.ref p) H') : TupK Q vs H :=
  v_tup S hn fun p H' S' => k p H' (S'.fixG h fun F q fp => ⟨rfl, .tup (.inl (.inl fp)) q⟩)
theorem atI_get {γ : Type} {xs : List γ} {i : Int} {x : γ} (h : atI xs i = some x) : ∃ j, ixN xs.length i = some j ∧ xs[j]? = some x := by
  unfold atI at h
  cases e : ixN xs.length i with
  | none => rw [e] at h; cases h
  | some j => rw [e] at h; exact ⟨j, rfl, h⟩
theorem atI_of {γ : Type} {xs : List γ} {i : Int} {x : γ} {j : Nat} (h1 : ixN xs.length i = some j) (h2 : xs[j]? = some x) : atI xs i = some x := by
  unfold atI
  rw [h1]
  exact h2
theorem DqAll.get {vs : List V} {ds : List PyData} {j : Nat} {d : PyData} (q : DqAll K H vs ds) (h : ds[j]? = some d) : ∃ v, vs[j]? = some v ∧ Dq K H v d := by
  have hj : j < vs.length := by rw [q.len]; exact (List.getElem?_eq_some_iff.mp h).1
  exact ⟨_, List.getElem?_eq_getElem hj, q.at (List.getElem?_eq_getElem hj) h⟩
theorem v_ixq {v : V} {ds : List PyData} {i : Int} {d : PyData} (S : M Rs H) (hj : EnF Rs (fun F => Dq K F v (.list ds)) ∨ EnF Rs (fun F => Dq K F v (.tuple ds))) (hx : atI ds i = some d) (k : ∀ u, M (da K u d :: Rs) H → Q u H) : uIx K v (.int i) H Q := by
  obtain ⟨j, h1, h2⟩ := atI_get hx
  obtain ⟨F, L, s, m⟩ := S
  rcases hj with hj | hj
  · cases hj F L s with
    | lst a q =>
      obtain ⟨u, h3, h4⟩ := q.get h2
      exact v_ixL (m.ex.sqL a) (atI_of (by rw [q.len]; exact h1) h3) (k u ⟨F, L, ⟨[], L, rfl, ⟨rfl, h4⟩, s⟩, m⟩)
  · cases hj F L s with
    | tup a q =>
      obtain ⟨u, h3, h4⟩ := q.get h2
      exact v_ixT (m.ex.sqT a) (atI_of (by rw [q.len]; exact h1) h3) (k u ⟨F, L, ⟨[], L, rfl, ⟨rfl, h4⟩, s⟩, m⟩)
theorem atI_map {γ δ : Type} {f : γ → δ} {xs : List γ} {i : Int} {x : γ} (h : atI xs i = some x) : atI (xs.map f) i = some (f x) := by
  obtain ⟨j, h1, h2⟩ := atI_get h
  exact atI_of (by rw [List.length_map]; exact h1) (by rw [List.getElem?_map, h2]; rfl)
theorem v_ixl {e : α → PyData} {v : V} {xs : List α} {i : Int} {x : α} (S : M Rs H) (j : Nat) (hj : Rs[j]? = some (da K v (eL e xs))) (hx : atI xs i = some x) (k : ∀ u, M (da K u (e x) :: Rs) H → Q u H) : uIx K v (.int i) H Q :=
  v_ixq S (.inl (EnF.at j hj)) (atI_map hx) k
theorem v_ixv {e : α → PyData} {v : V} {xs : List α} {i : Int} {x : α} (S : M Rs H) (j : Nat) (hj : Rs[j]? = some (da K v (eV e xs))) (hx : atI xs i = some x) (k : ∀ u, M (da K u (e x) :: Rs) H → Q u H) : uIx K v (.int i) H Q :=
  v_ixq S (.inr (EnF.at j hj)) (atI_map hx) k
theorem v_ixt {v : V} {ds : List PyData} {i : Int} {d : PyData} (S : M Rs H) (j : Nat) (hj : Rs[j]? = some (da K v (.tuple ds))) (hx : atI ds i = some d) (k : ∀ u, M (da K u d :: Rs) H → Q u H) : uIx K v (.int i) H Q :=
  v_ixq S (.inr (EnF.at j hj)) hx k
theorem v_ixo {e : α → PyData} {p : Addr} {xs : List α} {i : Int} {x : α} (S : M Rs H) (j : Nat) (hj : Rs[j]? = some (acR K p (xs.map e))) (hx : atI xs i = some x) (k : ∀ u, M (da K u (e x) :: Rs) H → Q u H) : uIx K (.ref p) (.int i) H Q := by
  obtain ⟨n, h1, h2⟩ := atI_get hx
  obtain ⟨vs, S1⟩ := (S.at j hj).ex
  have S2 := S1.sp
  have h3 : (xs.map e)[n]? = some (e x) := by rw [List.getElem?_map, h2]; rfl
  obtain ⟨u, h4, h5⟩ := (S2.gotAA 1 rfl).get h3
  have hl := (S2.gotAA 1 rfl).len
  rw [List.length_map] at hl
  refine v_ixL (SqL.of (S2.got 0 rfl)) (atI_of (by rw [hl]; exact h1) h4) (k u ?_)
  have S3 := S2.elA 1 rfl h4 h2
  obtain ⟨F, L, ⟨l0, l1, rfl, ⟨rfl, q⟩, l2, l3, rfl, a, l4, l5, rfl, ⟨rfl, q2⟩, b⟩, m⟩ := S3
  have b' : Sat F (acR K p (xs.map e) :: Rs.eraseIdx j) (l2 ++ l5) := ⟨l2, l5, rfl, ⟨vs, l2, [], by simp, a, rfl, q2⟩, b⟩
  obtain ⟨L', pp, sat⟩ := b'.perm (perm_at j hj).symm
  exact ⟨F, L', ⟨[], L', rfl, ⟨rfl, q⟩, sat⟩, m.perm (by simpa using pp)⟩
theorem Dq.intV {v : V} {i : Int} (h : Dq K H v (.int i)) : v = .int i := by cases h; rfl
theorem Dq.strV {v : V} {i : Str} (h : Dq K H v (.str i)) : v = .str i := by cases h; rfl
theorem Dq.blV {v : V} {i : Bool} (h : Dq K H v (.bool i)) : v = .bl i := by cases h; rfl
theorem Dq.nonV {v : V} (h : Dq K H v .none) : v = .non := by cases h; rfl
theorem DqAll.takeA : ∀ {vs : List V} {ds : List PyData}, DqAll K H vs ds → ∀ n, DqAll K H (vs.take n) (ds.take n)
  | _, _, .nil, n => by
    rw [List.take_nil, List.take_nil]
    exact .nil
  | _, _, .cons a r, 0 => .nil
  | _, _, .cons a r, n + 1 => .cons a (DqAll.takeA r n)
theorem DqAll.dropA : ∀ {vs : List V} {ds : List PyData}, DqAll K H vs ds → ∀ n, DqAll K H (vs.drop n) (ds.drop n)
  | _, _, .nil, n => by
    rw [List.drop_nil, List.drop_nil]
    exact .nil
  | _, _, .cons a r, 0 => .cons a r
  | _, _, .cons a r, n + 1 => DqAll.dropA r n
theorem DqAll.app : ∀ {vs ws : List V} {ds es : List PyData}, DqAll K H vs ds → DqAll K H ws es → DqAll K H (vs ++ ws) (ds ++ es)
  | _, _, _, _, .nil, h => h
  | _, _, _, _, .cons a r, h => .cons a (DqAll.app r h)
theorem DqAll.cut {vs : List V} {ds : List PyData} (q : DqAll K H vs ds) (lo hi : Option Int) : DqAll K H (cutV vs lo hi) (cutL ds lo hi) := by
  unfold cutV cutL
  rw [q.len]
  exact (q.dropA _).takeA _
theorem cutL_map {γ δ : Type} (f : γ → δ) (xs : List γ) (lo hi : Option Int) : cutL (xs.map f) lo hi = (cutL xs lo hi).map f := by
  unfold cutL
  rw [List.length_map, List.map_take, List.map_drop]
theorem len_ok {n : Nat} (h : Nat.ble n 100000 = true) : n ≤ 100000 := Nat.le_of_ble_eq_true h
theorem acR_fixL {e : α → PyData} {E : Addr} {xs : List α} (S : M (acR K E (xs.map e) :: Rs) H) : M (da K (.ref E) (eL e xs) :: Rs) H := acR_fix S
theorem v_slq {e : α → PyData} {v : V} {xs : List α} {lo hi : Option Int} (S : M Rs H) (j : Nat) (hj : Rs[j]? = some (da K v (eL e xs))) (k : ∀ p H', M (acR K p ((cutL xs lo hi).map e) :: Rs) H' → Q (.ref p) H') : uSl K v lo hi H Q := by
  obtain ⟨F, L, s, m⟩ := S
  have d := EnF.at j hj F L s
  cases d with
  | lst a q =>
    refine v_slL (⟨F, L, ⟨[], L, rfl, ⟨rfl, q⟩, s⟩, m⟩ : M (daA K _ (xs.map e) :: Rs) H) (m.ex.sqL a) fun p H' S' => k p H' ?_
    obtain ⟨F, L, ⟨l1, l2, rfl, a1, l3, l4, rfl, ⟨rfl, q1⟩, b⟩, m⟩ := S'
    exact ⟨F, _, ⟨l1, l4, rfl, ⟨_, l1, [], by simp, a1, rfl, by rw [← cutL_map]; exact q1.cut lo hi⟩, b⟩, m⟩
theorem v_catq {e : α → PyData} {v w : V} {xs ys : List α} (S : M Rs H) (i j : Nat) (hi : Rs[i]? = some (da K v (eL e xs))) (hj : Rs[j]? = some (da K w (eL e ys))) (hz : xs.length + ys.length ≤ 100000) (k : ∀ p H', M (acR K p ((xs ++ ys).map e) :: Rs) H' → Q (.ref p) H') : uAdd K v w H Q := by
  obtain ⟨F, L, s, m⟩ := S
  have d := EnF.at i hi F L s
  have d' := EnF.at j hj F L s
  cases d with
  | lst a q =>
    cases d' with
    | lst a' q' =>
      have l1 := q.len
      have l2 := q'.len
      rw [List.length_map] at l1 l2
      refine v_catS (⟨F, L, ⟨[], L, rfl, ⟨rfl, q.app q'⟩, s⟩, m⟩ : M (daA K _ (xs.map e ++ ys.map e) :: Rs) H) (m.ex.sqL a) (m.ex.sqL a') (by rw [l1, l2]; exact hz) fun p H' S' => k p H' ?_
      obtain ⟨F, L, ⟨l1, l2, rfl, a1, l3, l4, rfl, ⟨rfl, q1⟩, b⟩, m⟩ := S'
      exact ⟨F, _, ⟨l1, l4, rfl, ⟨_, l1, [], by simp, a1, rfl, by rw [List.map_append]; exact q1⟩, b⟩, m⟩
/-- list(x) of a list, of a tuple -/
theorem v_liq {e : α → PyData} {v : V} {xs : List α} (S : M Rs H) (h : EnF Rs (fun F => Dq K F v (eL e xs)) ∨ EnF Rs (fun F => Dq K F v (eV e xs))) (k : ∀ p H', M (acR K p (xs.map e) :: Rs) H' → Q (.ref p) H') : rListOf K [v] H Q := by
  obtain ⟨F, L, s, m⟩ := S
  obtain ⟨a, vs, rfl, hs, q⟩ : ∃ a vs, v = .ref a ∧ (SqL K F a vs ∨ SqT K F a vs) ∧ DqAll K F vs (xs.map e) := by
    rcases h with h | h
    · cases h F L s with
      | lst a q => exact ⟨_, _, rfl, .inl a, q⟩
    · cases h F L s with
      | tup a q => exact ⟨_, _, rfl, .inr a, q⟩
  refine v_list (⟨F, L, ⟨[], L, rfl, ⟨rfl, q⟩, s⟩, m⟩ : M (daA K _ (xs.map e) :: Rs) H) (hs.imp (fun z => m.ex.sqL z) (fun z => m.ex.sqT z)) fun p H' S' => k p H' ?_
  obtain ⟨F, L, ⟨l1, l2, rfl, a1, l3, l4, rfl, ⟨rfl, q1⟩, b⟩, m⟩ := S'
  exact ⟨F, _, ⟨l1, l4, rfl, ⟨_, l1, [], by simp, a1, rfl, q1⟩, b⟩, m⟩
/-- list(x) of one's own list -/
theorem v_lio {p0 : Addr} {ds : List PyData} (S : M Rs H) (j : Nat) (hj : Rs[j]? = some (acR K p0 ds)) (k : ∀ p H', M (acR K p ds :: Rs) H' → Q (.ref p) H') : rListOf K [.ref p0] H Q := by
  obtain ⟨vs, S1⟩ := (S.at j hj).ex
  have S2 := S1.sp
  refine v_list S2 (.inl (SqL.of (S2.got 0 rfl))) fun p H' S' => k p H' ?_
  obtain ⟨F, L, ⟨l1, l2, rfl, a1, l3, l4, rfl, a2, l5, l6, rfl, ⟨rfl, q⟩, b⟩, m⟩ := S'
  have b' : Sat F (acR K p0 ds :: Rs.eraseIdx j) (l3 ++ l6) := ⟨l3, l6, rfl, ⟨vs, l3, [], by simp, a2, rfl, q⟩, b⟩
  obtain ⟨L', pp, sat⟩ := b'.perm (perm_at j hj).symm
  exact ⟨F, l1 ++ L', ⟨l1, L', rfl, ⟨vs, l1, [], by simp, a1, rfl, q⟩, sat⟩, m.perm (by simpa using pp.append_left l1)⟩
theorem v_lenq {v : V} {ds : List PyData} (S : M Rs H) (h : EnF Rs (fun F => Dq K F v (.list ds)) ∨ EnF Rs (fun F => Dq K F v (.tuple ds))) (k : Q (.int (ds.length : Nat)) H) : uLen K [v] H Q := by
  obtain ⟨F, L, s, m⟩ := S
  rcases h with h | h
  · cases h F L s with
    | lst a q => exact .inl ⟨_, _, rfl, .inl ⟨_, m.ex.sqL a, q.len.symm⟩, k⟩
  · cases h F L s with
    | tup a q => exact .inl ⟨_, _, rfl, .inr ⟨_, m.ex.sqT a, q.len.symm⟩, k⟩
theorem v_lenl {e : α → PyData} {v : V} {xs : List α} (S : M Rs H) (j : Nat) (hj : Rs[j]? = some (da K v (eL e xs))) (k : Q (.int (xs.length : Nat)) H) : uLen K [v] H Q :=
  v_lenq S (.inl (EnF.at j hj)) (by rw [List.length_map]; exact k)
theorem v_lenv {e : α → PyData} {v : V} {xs : List α} (S : M Rs H) (j : Nat) (hj : Rs[j]? = some (da K v (eV e xs))) (k : Q (.int (xs.length : Nat)) H) : uLen K [v] H Q :=
  v_lenq S (.inr (EnF.at j hj)) (by rw [List.length_map]; exact k)
theorem v_leno {e : α → PyData} {p : Addr} {xs : List α} (S : M Rs H) (j : Nat) (hj : Rs[j]? = some (acR K p (xs.map e))) (k : Q (.int (xs.length : Nat)) H) : uLen K [.ref p] H Q := by
  obtain ⟨vs, S1⟩ := (S.at j hj).ex
  have S2 := S1.sp
  have hl := (S2.gotAA 1 rfl).len
  rw [List.length_map] at hl
  exact v_lenL (SqL.of (S2.got 0 rfl)) (by rw [hl]; exact k)
theorem M.tyO {p : Addr} {ds : List PyData} {φ : Prop} (S : M Rs H) (j : Nat) (hj : Rs[j]? = some (acR K p ds)) (k : φ) : tyV K "list" (.ref p) H ∧ φ := by
  obtain ⟨vs, S1⟩ := (S.at j hj).ex
  exact v_tyL (SqL.of (S1.sp.got 0 rfl)) k
theorem v_apo {p : Addr} {ds : List PyData} {y : V} {d : PyData} (S : M Rs H) (j : Nat) (hj : Rs[j]? = some (acR K p ds)) (h : EnF Rs (fun F => Dq K F y d)) (hz : ds.length < 100000) (k : ∀ H', M (acR K p (ds ++ [d]) :: Rs.eraseIdx j) H' → Q .non H') : rAppend (.ref p) [y] H Q := by
  have S0 : M (da K y d :: Rs) H := S.addA h
  have S1 : M (acR K p ds :: da K y d :: Rs.eraseIdx j) H := (S0.at (j + 1) (by simpa using hj))
  obtain ⟨vs, S2⟩ := S1.ex
  have S3 := S2.sp
  have hl : vs.length = ds.length := (S3.gotAA 1 rfl).len
  refine v_app S3 0 rfl (by rw [hl]; exact hz) fun H' S4 => k H' ?_
  obtain ⟨F, L, ⟨l1, l2, rfl, a, l3, l4, rfl, ⟨rfl, q⟩, l5, l6, rfl, ⟨rfl, q2⟩, b⟩, m⟩ := S4
  exact ⟨F, _, ⟨l1, l6, by simp, ⟨vs ++ [y], l1, [], by simp, a, rfl, DqAll.snoc q2 q⟩, b⟩, m⟩
theorem v_apl {e : α → PyData} {p : Addr} {xs : List α} {y : V} {x : α} (S : M Rs H) (j : Nat) (hj : Rs[j]? = some (acR K p (xs.map e))) (h : EnF Rs (fun F => Dq K F y (e x))) (hz : xs.length < 100000) (k : ∀ H', M (acR K p ((xs ++ [x]).map e) :: Rs.eraseIdx j) H' → Q .non H') : rAppend (.ref p) [y] H Q :=
  v_apo S j hj h (by rw [List.length_map]; exact hz) fun H' S' => k H' (by rw [List.map_append]; exact S')
theorem DqAll.setA {v : V} {d : PyData} (h : Dq K H v d) : ∀ {vs : List V} {ds : List PyData}, DqAll K H vs ds → ∀ n, DqAll K H (vs.set n v) (ds.set n d)
  | _, _, .nil, _ => .nil
  | _, _, .cons a r, 0 => .cons h r
  | _, _, .cons a r, n + 1 => .cons a (DqAll.setA h r n)
theorem v_setl {e : α → PyData} {p : Addr} {xs : List α} {y : V} {x : α} {i : Int} {n : Nat} {Q : Hp → Prop} (S : M Rs H) (j : Nat) (hj : Rs[j]? = some (acR K p (xs.map e))) (hx : ixN xs.length i = some n) (h : EnF Rs (fun F => Dq K F y (e x)))
    (k : ∀ H', M (acR K p ((xs.set n x).map e) :: Rs.eraseIdx j) H' → Q H') : uSet (.ref p) (.int i) y H Q := by
  have S0 : M (da K y (e x) :: Rs) H := S.addA h
  have S1 : M (acR K p (xs.map e) :: da K y (e x) :: Rs.eraseIdx j) H := (S0.at (j + 1) (by simpa using hj))
  obtain ⟨vs, S2⟩ := S1.ex
  have S3 := S2.sp
  have hl : vs.length = xs.length := by
    have := (S3.gotAA 1 rfl).len
    rwa [List.length_map] at this
  refine v_set S3 0 rfl (j := n) (by rw [hl]; exact hx) fun H' S4 => k H' ?_
  obtain ⟨F, L, ⟨l1, l2, rfl, a, l3, l4, rfl, ⟨rfl, q⟩, l5, l6, rfl, ⟨rfl, q2⟩, b⟩, m⟩ := S4
  exact ⟨F, _, ⟨l1, l6, by simp, ⟨vs.set n y, l1, [], by simp, a, rfl, by rw [List.map_set]; exact DqAll.setA q2 q n⟩, b⟩, m⟩
end
end RC

namespace RC
open PySem PySem.Spec PyProof.Rows L2
/-! ### dicts of one's own -/
section
variable {κ α : Type} [DecidableEq κ]
def lk (m : List (κ × α)) (k : κ) : Option α := (m.find? fun p => decide (p.1 = k)).map (·.2)
def pk (m : List (κ × α)) (k : κ) (x : α) : List (κ × α) := if (m.any fun p => decide (p.1 = k)) = true then m.map (fun p => if p.1 = k then (p.1, x) else p) else m ++ [(k, x)]
def dk (m : List (κ × α)) (k : κ) : List (κ × α) := m.filter fun p => decide (p.1 ≠ k)
def ks (m : List (κ × α)) : List κ := m.map (·.1)
theorem lk_cons (p : κ × α) (m : List (κ × α)) (k : κ) : lk (p :: m) k = if p.1 = k then some p.2 else lk m k := by
  unfold lk
  rw [List.find?_cons]
  by_cases h : p.1 = k
  · simp [h]
  · simp [h]
theorem any_lk (m : List (κ × α)) (k : κ) : (m.any fun p => decide (p.1 = k)) = (lk m k).isSome := by
  induction m with
  | nil => rfl
  | cons p m ih =>
    rw [List.any_cons, ih, lk_cons]
    by_cases h : p.1 = k
    · simp [h]
    · simp [h]
end
inductive TKv {κ α : Type} (K : PySem.W.Frag) (H : Hp) (ik : κ → Key) (e : α → PyData) : List (Key × V) → List (κ × α) → Prop
  | nil : TKv K H ik e [] []
  | cons {k : κ} {v : V} {x : α} {r : List (Key × V)} {m : List (κ × α)} (h : Dq K H v (e x)) (t : TKv K H ik e r m) : TKv K H ik e ((ik k, v) :: r) ((k, x) :: m)
section
variable {κ α : Type} {K : PySem.W.Frag} {H H' : Hp} {ik : κ → Key} {e : α → PyData} {kvs : List (Key × V)} {m : List (κ × α)}
theorem TKv.ext (x : Ext H H') : ∀ {kvs : List (Key × V)} {m : List (κ × α)}, TKv K H ik e kvs m → TKv K H' ik e kvs m
  | _, _, .nil => .nil
  | _, _, .cons h t => .cons (Dq_ext x h) (TKv.ext x t)
theorem TKv.kv : ∀ {kvs : List (Key × V)} {m : List (κ × α)}, TKv K H ik e kvs m → DqKv K H kvs (m.map fun p => (kD (ik p.1), e p.2))
  | _, _, .nil => .nil
  | _, _, .cons h t => .cons h (TKv.kv t)
theorem TKv.len : ∀ {kvs : List (Key × V)} {m : List (κ × α)}, TKv K H ik e kvs m → kvs.length = m.length
  | _, _, .nil => rfl
  | _, _, .cons h t => by rw [List.length_cons, List.length_cons, TKv.len t]
theorem TKv.keys : ∀ {kvs : List (Key × V)} {m : List (κ × α)}, TKv K H ik e kvs m → kvs.map (·.1) = (ks m).map ik
  | _, _, .nil => rfl
  | _, _, .cons h t => by
    have := TKv.keys t
    simp only [ks, List.map_cons] at this ⊢
    rw [this]
variable [DecidableEq κ]
theorem TKv.some (inj : ∀ a b, ik a = ik b → a = b) {k : κ} {x : α} : ∀ {kvs : List (Key × V)} {m : List (κ × α)}, TKv K H ik e kvs m → lk m k = some x → ∃ v, valV kvs (ik k) = Option.some v ∧ Dq K H v (e x)
  | _, _, .nil, h => by cases h
  | _, _, .cons (k := k') h t, g => by
    rw [lk_cons] at g
    by_cases z : k' = k
    · subst z
      rw [if_pos rfl] at g
      cases g
      exact ⟨_, valV_pos rfl, h⟩
    · rw [if_neg z] at g
      obtain ⟨v, a, b⟩ := TKv.some inj t g
      exact ⟨v, by rw [valV_neg (fun q => z (inj _ _ q))]; exact a, b⟩
theorem TKv.none (inj : ∀ a b, ik a = ik b → a = b) {k : κ} : ∀ {kvs : List (Key × V)} {m : List (κ × α)}, TKv K H ik e kvs m → lk m k = none → valV kvs (ik k) = Option.none
  | _, _, .nil, h => rfl
  | _, _, .cons (k := k') h t, g => by
    rw [lk_cons] at g
    by_cases z : k' = k
    · subst z
      rw [if_pos rfl] at g
      cases g
    · rw [if_neg z] at g
      rw [valV_neg (fun q => z (inj _ _ q))]
      exact TKv.none inj t g
theorem TKv.isSome (inj : ∀ a b, ik a = ik b → a = b) (t : TKv K H ik e kvs m) (k : κ) : (valV kvs (ik k)).isSome = (lk m k).isSome := by
  cases h : lk m k with
  | none =>
    rw [t.none inj h]
    rfl
  | some x =>
    obtain ⟨v, a, _⟩ := t.some inj h
    rw [a]
    rfl
theorem TKv.app {r : List (Key × V)} {n : List (κ × α)} (b : TKv K H ik e r n) : ∀ {kvs : List (Key × V)} {m : List (κ × α)}, TKv K H ik e kvs m → TKv K H ik e (kvs ++ r) (m ++ n)
  | _, _, .nil => b
  | _, _, .cons h t => .cons h (TKv.app b t)
theorem TKv.upd (inj : ∀ a b, ik a = ik b → a = b) {k : κ} {x : α} {v : V} (d : Dq K H v (e x)) : ∀ {kvs : List (Key × V)} {m : List (κ × α)}, TKv K H ik e kvs m →
    TKv K H ik e (kvs.map fun kv => if kv.1 = ik k then (kv.1, v) else kv) (m.map fun p => if p.1 = k then (p.1, x) else p)
  | _, _, .nil => .nil
  | _, _, .cons (k := k') h t => by
    rw [List.map_cons, List.map_cons]
    by_cases z : k' = k
    · subst z
      rw [if_pos rfl, if_pos rfl]
      exact .cons d (TKv.upd inj d t)
    · rw [if_neg (fun q => z (inj _ _ q)), if_neg z]
      exact .cons h (TKv.upd inj d t)
theorem TKv.put (inj : ∀ a b, ik a = ik b → a = b) {k : κ} {x : α} {v : V} (t : TKv K H ik e kvs m) (d : Dq K H v (e x)) : TKv K H ik e (putK kvs (ik k) v) (pk m k x) := by
  unfold putK pk
  rw [any_lk m k, valV_any (ik k) kvs, t.isSome inj]
  cases lk m k with
  | none =>
    rw [if_neg (by simp), if_neg (by simp)]
    exact TKv.app (.cons d .nil) t
  | some y =>
    rw [if_pos (by rfl), if_pos (by rfl)]
    exact TKv.upd inj d t
theorem TKv.drop (inj : ∀ a b, ik a = ik b → a = b) {k : κ} : ∀ {kvs : List (Key × V)} {m : List (κ × α)}, TKv K H ik e kvs m → TKv K H ik e (dropK kvs (ik k)) (dk m k)
  | _, _, .nil => .nil
  | _, _, .cons (k := k') h t => by
    have ih := TKv.drop (k := k) inj t
    unfold dropK dk at ih ⊢
    by_cases z : k' = k
    · subst z
      rw [List.filter_cons_of_neg (by simp), List.filter_cons_of_neg (by simp)]
      exact ih
    · rw [List.filter_cons_of_pos (by simpa using fun q => z (inj _ _ q)), List.filter_cons_of_pos (by simpa using z)]
      exact .cons h ih
end
theorem injI (a b : Int) (h : iI a = iI b) : a = b := Sum.inl.inj h
theorem injS (a b : Str) (h : iS a = iS b) : a = b := Sum.inr.inj h
section
variable {κ α : Type} {K : PySem.W.Frag} {ik : κ → Key} {e : α → PyData} {m : List (κ × α)} {Rs : List Res} {H : Hp} {Q : VK} {σ : L2.St} {D : Ends} {p : Addr}
def tkR (K : PySem.W.Frag) (ik : κ → Key) (e : α → PyData) (kvs : List (Key × V)) (m : List (κ × α)) : Res := ⟨fun F l => l = [] ∧ TKv K F ik e kvs m, fun _ _ _ x h => ⟨h.1, TKv.ext x h.2⟩⟩
def adR (K : PySem.W.Frag) (ik : κ → Key) (e : α → PyData) (p : Addr) (m : List (κ × α)) : Res := exi fun kvs => sp2 (pt p (.dK kvs)) (tkR K ik e kvs m)
theorem M.gotT {kvs : List (Key × V)} (S : M Rs H) (i : Nat) (h : Rs[i]? = some (tkR K ik e kvs m)) : TKv K H ik e kvs m := by
  obtain ⟨F, L, s, mm⟩ := S
  obtain ⟨l, h⟩ := s.get i h
  exact TKv.ext mm.ex h.2
theorem adR_open (S : M Rs H) (j : Nat) (hj : Rs[j]? = some (adR K ik e p m)) : ∃ kvs, M (pt p (.dK kvs) :: tkR K ik e kvs m :: Rs.eraseIdx j) H := by
  obtain ⟨kvs, S1⟩ := (S.at j hj).ex
  exact ⟨kvs, S1.sp⟩
theorem adR_close {kvs : List (Key × V)} (S : M (pt p (.dK kvs) :: tkR K ik e kvs m :: Rs) H) : M (adR K ik e p m :: Rs) H := M.ex' (T := fun kvs => sp2 (pt p (.dK kvs)) (tkR K ik e kvs m)) kvs S.sp'
theorem adR_back {kvs : List (Key × V)} (j : Nat) (hj : Rs[j]? = some (adR K ik e p m)) (S : M (pt p (.dK kvs) :: tkR K ik e kvs m :: Rs.eraseIdx j) H) : M Rs H := (adR_close S).perm (perm_at j hj).symm
theorem v_dnewo (S : M Rs H) (k : ∀ p H', M (adR K ik e p ([] : List (κ × α)) :: Rs) H' → Q (.ref p) H') : tDNewK σ H Q := v_dnew S fun p H' S' => k p H' (by
  obtain ⟨F, L, ⟨l1, l2, rfl, a, b⟩, mm⟩ := S'
  exact ⟨F, _, ⟨l1, l2, rfl, ⟨[], l1, [], by simp, a, rfl, .nil⟩, b⟩, mm⟩)
theorem M.gotDk (S : M Rs H) (j : Nat) (hj : Rs[j]? = some (adR K ik e p m)) : ∃ kvs, H p = some (.dK kvs) ∧ TKv K H ik e kvs m := by
  obtain ⟨kvs, S1⟩ := adR_open S j hj
  exact ⟨kvs, S1.got 0 rfl, S1.gotT 1 rfl⟩
theorem v_lend (S : M Rs H) (j : Nat) (hj : Rs[j]? = some (adR K ik e p m)) (k : Q (.int (m.length : Nat)) H) : uLen K [.ref p] H Q := by
  obtain ⟨kvs, h, t⟩ := S.gotDk j hj
  exact v_lenD h (by rw [t.len]; exact k)
variable [DecidableEq κ]
theorem v_indS {e : α → PyData} {m : List (Str × α)} {n : Str} (S : M Rs H) (j : Nat) (hj : Rs[j]? = some (adR K iS e p m)) (k : Q (.bl (lk m n).isSome) H) : uIn K (.str n) (.ref p) H Q := by
  obtain ⟨kvs, h, t⟩ := S.gotDk j hj
  exact v_inKS h (by rw [show (Sum.inr n : Key) = iS n from rfl, t.isSome injS]; exact k)
theorem v_nindS {e : α → PyData} {m : List (Str × α)} {n : Str} (S : M Rs H) (j : Nat) (hj : Rs[j]? = some (adR K iS e p m)) (k : Q (.bl (!(lk m n).isSome)) H) : uNotIn K (.str n) (.ref p) H Q := by
  obtain ⟨kvs, h, t⟩ := S.gotDk j hj
  exact v_ninKS h (by rw [show (Sum.inr n : Key) = iS n from rfl, t.isSome injS]; exact k)
theorem v_indI {e : α → PyData} {m : List (Int × α)} {n : Int} (S : M Rs H) (j : Nat) (hj : Rs[j]? = some (adR K iI e p m)) (k : Q (.bl (lk m n).isSome) H) : uIn K (.int n) (.ref p) H Q := by
  obtain ⟨kvs, h, t⟩ := S.gotDk j hj
  exact v_inK h (by rw [show (Sum.inl n : Key) = iI n from rfl, t.isSome injI]; exact k)
theorem v_nindI {e : α → PyData} {m : List (Int × α)} {n : Int} (S : M Rs H) (j : Nat) (hj : Rs[j]? = some (adR K iI e p m)) (k : Q (.bl (!(lk m n).isSome)) H) : uNotIn K (.int n) (.ref p) H Q := by
  obtain ⟨kvs, h, t⟩ := S.gotDk j hj
  exact v_ninK h (by rw [show (Sum.inl n : Key) = iI n from rfl, t.isSome injI]; exact k)
/-- d[k] -/
theorem ixd_core {k : κ} {x : α} (inj : ∀ a b, ik a = ik b → a = b) (S : M Rs H) (j : Nat) (hj : Rs[j]? = some (adR K ik e p m)) (hx : lk m k = some x) : ∃ kvs v, H p = some (.dK kvs) ∧ valV kvs (ik k) = some v ∧ M (da K v (e x) :: Rs) H := by
  obtain ⟨kvs, S1⟩ := adR_open S j hj
  obtain ⟨F, L, ⟨l1, l2, rfl, a, l3, l4, rfl, ⟨rfl, t⟩, b⟩, mm⟩ := id S1
  obtain ⟨v, h1, h2⟩ := t.some inj hx
  refine ⟨kvs, v, S1.got 0 rfl, h1, ?_⟩
  have b' : Sat F (adR K ik e p m :: Rs.eraseIdx j) (l1 ++ l4) := ⟨l1, l4, rfl, ⟨kvs, l1, [], by simp, a, rfl, t⟩, b⟩
  obtain ⟨L', pp, sat⟩ := b'.perm (perm_at j hj).symm
  exact ⟨F, L', ⟨[], L', rfl, ⟨rfl, h2⟩, sat⟩, mm.perm (by simpa using pp)⟩
theorem v_ixdS {e : α → PyData} {m : List (Str × α)} {n : Str} {x : α} (S : M Rs H) (j : Nat) (hj : Rs[j]? = some (adR K iS e p m)) (hx : lk m n = some x) (k : ∀ u, M (da K u (e x) :: Rs) H → Q u H) : rIxK (.ref p) (.str n) H Q := by
  obtain ⟨kvs, v, h1, h2, S2⟩ := ixd_core injS S j hj hx
  exact v_ixKS h1 h2 (k v S2)
theorem v_ixdI {e : α → PyData} {m : List (Int × α)} {n : Int} {x : α} (S : M Rs H) (j : Nat) (hj : Rs[j]? = some (adR K iI e p m)) (hx : lk m n = some x) (k : ∀ u, M (da K u (e x) :: Rs) H → Q u H) : rIxK (.ref p) (.int n) H Q := by
  obtain ⟨kvs, v, h1, h2, S2⟩ := ixd_core injI S j hj hx
  exact v_ixK h1 h2 (k v S2)
/-- d[k] = v -/
theorem putd_core {k : κ} {x : α} {y : V} (inj : ∀ a b, ik a = ik b → a = b) (S : M Rs H) (j : Nat) (hj : Rs[j]? = some (adR K ik e p m)) (h : EnF Rs (fun F => Dq K F y (e x))) :
    ∃ kvs, H p = some (.dK kvs) ∧ kvs.length = m.length ∧ M (adR K ik e p (pk m k x) :: Rs.eraseIdx j) (upd H p (.dK (putK kvs (ik k) y))) := by
  have S0 : M (da K y (e x) :: Rs) H := S.addA h
  obtain ⟨kvs, S1⟩ := adR_open S0 (j + 1) (by simpa using hj)
  have hl := (S1.gotT 1 rfl).len
  refine ⟨kvs, S1.got 0 rfl, hl, ?_⟩
  have S2 := S1.putAt (o' := .dK (putK kvs (ik k) y)) 0 rfl
  obtain ⟨F, L, ⟨l1, l2, rfl, a, l3, l4, rfl, ⟨rfl, t⟩, l5, l6, rfl, ⟨rfl, d⟩, b⟩, mm⟩ := S2
  exact ⟨F, _, ⟨l1, l6, by simp, ⟨_, l1, [], by simp, a, rfl, t.put inj d⟩, b⟩, mm⟩
theorem v_putdS {e : α → PyData} {m : List (Str × α)} {n : Str} {x : α} {y : V} {Q : Hp → Prop} (S : M Rs H) (j : Nat) (hj : Rs[j]? = some (adR K iS e p m)) (h : EnF Rs (fun F => Dq K F y (e x))) (hz : m.length < 100000)
    (k : ∀ H', M (adR K iS e p (pk m n x) :: Rs.eraseIdx j) H' → Q H') : uSet (.ref p) (.str n) y H Q := by
  obtain ⟨kvs, h1, h2, S2⟩ := putd_core (k := n) injS S j hj h
  exact .inr ⟨p, _, rfl, DPut.k (k := Sum.inr n) h1 (Nat.lt_of_lt_of_le (by rw [h2]; exact hz) (by decide)), k _ S2⟩
theorem v_putdI {e : α → PyData} {m : List (Int × α)} {n : Int} {x : α} {y : V} {Q : Hp → Prop} (S : M Rs H) (j : Nat) (hj : Rs[j]? = some (adR K iI e p m)) (h : EnF Rs (fun F => Dq K F y (e x))) (hz : m.length < 100000)
    (k : ∀ H', M (adR K iI e p (pk m n x) :: Rs.eraseIdx j) H' → Q H') : uSet (.ref p) (.int n) y H Q := by
  obtain ⟨kvs, h1, h2, S2⟩ := putd_core (k := n) injI S j hj h
  exact .inr ⟨p, _, rfl, DPut.k (k := Sum.inl n) h1 (Nat.lt_of_lt_of_le (by rw [h2]; exact hz) (by decide)), k _ S2⟩
/-- a dict that is not walked any more is data -/
theorem adR_fix (S : M (adR K ik e p m :: Rs) H) : M (da K (.ref p) (eD ik e m) :: Rs) H := by
  obtain ⟨kvs, S1⟩ := S.ex
  obtain ⟨F, L, ⟨l1, l2, rfl, ⟨rfl, fp⟩, l3, l4, rfl, ⟨rfl, t⟩, b⟩, mm⟩ := S1.sp.fix
  exact ⟨F, l4, ⟨[], l4, rfl, ⟨rfl, .dct fp t.kv⟩, b⟩, mm⟩
/-! sorted -/
def srtS (xs : List Str) : List Str := xs.mergeSort fun a b => decide (a.cps.toList ≤ b.cps.toList)
end
end RC
namespace RC
open PySem PySem.Spec PyProof.Rows L2
/-! ### texts in order -/
def leS (a b : Str) : Bool := !ltCps b.cps.toList a.cps.toList
def srtS' (xs : List Str) : List Str := xs.mergeSort leS
theorem ltCps_irrefl : ∀ a : List Nat, ltCps a a = false
  | [] => rfl
  | x :: r => by simp [ltCps, ltCps_irrefl r]
theorem ltCps_trans : ∀ a b c : List Nat, ltCps a b = true → ltCps b c = true → ltCps a c = true
  | [], [], _, h, _ => by simp [ltCps] at h
  | [], _ :: _, [], _, h => by simp [ltCps] at h
  | [], _ :: _, _ :: _, _, _ => rfl
  | _ :: _, [], _, h, _ => by simp [ltCps] at h
  | _ :: _, _ :: _, [], _, h => by simp [ltCps] at h
  | x :: r, y :: s, z :: t, h, g => by
    simp only [ltCps, Bool.or_eq_true, Bool.and_eq_true, decide_eq_true_eq, beq_iff_eq] at h g ⊢
    rcases h with h | ⟨h, h'⟩
    · rcases g with g | ⟨g, _⟩
      · exact .inl (by omega)
      · exact .inl (by omega)
    · rcases g with g | ⟨g, g'⟩
      · exact .inl (by omega)
      · exact .inr ⟨by omega, ltCps_trans r s t h' g'⟩
theorem ltCps_tri : ∀ a b : List Nat, ltCps a b = false → ltCps b a = false → a = b
  | [], [], _, _ => rfl
  | [], _ :: _, h, _ => by simp [ltCps] at h
  | _ :: _, [], _, h => by simp [ltCps] at h
  | x :: r, y :: s, h, g => by
    simp only [ltCps, Bool.or_eq_false_iff, Bool.and_eq_false_iff, decide_eq_false_iff_not, beq_eq_false_iff_ne] at h g
    have e : x = y := by omega
    subst e
    rw [ltCps_tri r s (by simpa using h.2) (by simpa using g.2)]
theorem leS_refl (a : Str) : leS a a = true := by simp [leS, ltCps_irrefl]
theorem leS_total (a b : Str) : (leS a b || leS b a) = true := by
  unfold leS
  cases h : ltCps b.cps.toList a.cps.toList with
  | false => rfl
  | true =>
    cases g : ltCps a.cps.toList b.cps.toList with
    | false => rfl
    | true =>
      have := ltCps_trans _ _ _ h g
      rw [ltCps_irrefl] at this
      cases this
theorem leS_trans (a b c : Str) (h : leS a b = true) (g : leS b c = true) : leS a c = true := by
  unfold leS at *
  cases k : ltCps c.cps.toList a.cps.toList with
  | false => rfl
  | true =>
    exfalso
    rw [Bool.not_eq_true'] at h g
    cases z : ltCps b.cps.toList c.cps.toList with
    | true =>
      have := ltCps_trans _ _ _ z k
      rw [this] at h
      cases h
    | false =>
      have e := ltCps_tri _ _ z g
      rw [e] at h
      rw [h] at k
      cases k
theorem leS_anti (a b : Str) (h : leS a b = true) (g : leS b a = true) : a = b := by
  unfold leS at *
  rw [Bool.not_eq_true'] at h g
  have e := ltCps_tri _ _ g h
  obtain ⟨x⟩ := a
  obtain ⟨y⟩ := b
  have e' : x = y := Array.toList_inj.mp e
  rw [e']
theorem sortedS_pw : ∀ {l : List Str}, sortedS l = true → l.Pairwise (fun a b => leS a b = true)
  | [], _ => List.Pairwise.nil
  | [x], _ => by simp
  | x :: y :: r, h => by
    have h' : (!ltCps y.cps.toList x.cps.toList && risingS y r) = true := h
    rw [Bool.and_eq_true] at h'
    have ih := sortedS_pw (l := y :: r) h'.2
    refine List.pairwise_cons.mpr ⟨fun z hz => ?_, ih⟩
    rcases List.mem_cons.mp hz with rfl | hz
    · exact h'.1
    · exact leS_trans _ _ _ h'.1 ((List.pairwise_cons.mp ih).1 z hz)
theorem pwS_eq : ∀ {xs ys : List Str}, xs.Perm ys → xs.Pairwise (fun a b => leS a b = true) → ys.Pairwise (fun a b => leS a b = true) → xs = ys
  | [], ys, p, _, _ => (List.nil_perm.mp p).symm
  | x :: xs, [], p, _, _ => absurd p.length_eq (by simp)
  | x :: xs, y :: ys, p, h1, h2 => by
    obtain ⟨a1, a2⟩ := List.pairwise_cons.mp h1
    obtain ⟨b1, b2⟩ := List.pairwise_cons.mp h2
    have e : x = y := by
      have m1 : y ∈ x :: xs := p.mem_iff.mpr List.mem_cons_self
      have m2 : x ∈ y :: ys := p.mem_iff.mp List.mem_cons_self
      rcases List.mem_cons.mp m1 with z | z
      · exact z.symm
      · rcases List.mem_cons.mp m2 with w | w
        · exact w
        · exact leS_anti _ _ (a1 y z) (b1 x w)
    subst e
    rw [pwS_eq (List.Perm.cons_inv p) a2 b2]
theorem srtS_perm (xs : List Str) : (srtS' xs).Perm xs := List.mergeSort_perm _ _
theorem srtS_pw (xs : List Str) : (srtS' xs).Pairwise (fun a b => leS a b = true) := List.pairwise_mergeSort (le := leS) leS_trans leS_total xs
theorem srtS_eq {ys xs : List Str} (p : ys.Perm xs) (h : sortedS ys = true) : ys = srtS' xs := pwS_eq (p.trans (srtS_perm xs).symm) (sortedS_pw h) (srtS_pw xs)
def rSortDS : List V → Hp → VK → Prop := fun xs H Q => ∃ (a : Addr) (kvs : List (Key × V)) (ks : List Str), xs = [.ref a] ∧ Rd H a (.dK kvs) ∧ kvs.map (·.1) = ks.map Sum.inr ∧ ks.length < 64 ∧
  ∀ ys p, ys.Perm ks → sortedS ys = true → H p = none → Q (.ref p) (upd H p (.lst (ys.map V.str)))
theorem cr_sortedDS {X : Cx} (h : X.calm = true) : CallR X (.builtin "sorted") rSortDS := call_sortedD h
section
variable {α : Type} {K : PySem.W.Frag} {e : α → PyData} {Rs : List Res} {H : Hp} {Q : VK} {p : Addr}
theorem dqAll_strs : ∀ xs : List Str, DqAll K H (xs.map V.str) (xs.map eS)
  | [] => .nil
  | x :: r => .cons (.str x) (dqAll_strs r)
theorem dqAll_ints : ∀ xs : List Int, DqAll K H (xs.map V.int) (xs.map eI)
  | [] => .nil
  | x :: r => .cons (.int x) (dqAll_ints r)
theorem M.ownS {q : Addr} {xs : List Str} (S : M (pt q (.lst (xs.map V.str)) :: Rs) H) : M (acR K q (xs.map eS) :: Rs) H := S.own (EnF.all fun F => dqAll_strs xs)
theorem M.ownI {q : Addr} {xs : List Int} (S : M (pt q (.lst (xs.map V.int)) :: Rs) H) : M (acR K q (xs.map eI) :: Rs) H := S.own (EnF.all fun F => dqAll_ints xs)
theorem v_sortdS {m : List (Str × α)} (S : M Rs H) (j : Nat) (hj : Rs[j]? = some (adR K iS e p m)) (hz : (ks m).length < 64) (k : ∀ q H', M (acR K q ((srtS' (ks m)).map eS) :: Rs) H' → Q (.ref q) H') : rSortDS [.ref p] H Q := by
  obtain ⟨kvs, h, t⟩ := S.gotDk j hj
  refine ⟨p, kvs, ks m, rfl, .inl h, t.keys, hz, fun ys q hp hs hn => ?_⟩
  rw [srtS_eq hp hs]
  exact k q _ (S.new hn).ownS
theorem v_sortdI {m : List (Int × α)} (S : M Rs H) (j : Nat) (hj : Rs[j]? = some (adR K iI e p m)) (hz : (ks m).length < 64) (k : ∀ q H', M (acR K q ((srt (ks m)).map eI) :: Rs) H' → Q (.ref q) H') : rSortDI [.ref p] H Q := by
  obtain ⟨kvs, h, t⟩ := S.gotDk j hj
  exact v_sortDI S h t.keys hz fun q H' S' => k q H' S'.ownI
/-! ### texts -/
def atS (s : Str) (i : Int) : Option Str := if s.length ≤ 100000 then (atI s.cps.toList i).map fun c => ⟨#[c]⟩ else none
theorem v_ixs {s : Str} {i : Int} {c : Str} (h : atS s i = some c) (k : Q (.str c) H) : uIx K (.str s) (.int i) H Q := by
  unfold atS at h
  split at h
  · rename_i hz
    cases e : atI s.cps.toList i with
    | none => rw [e] at h; cases h
    | some n =>
      rw [e] at h
      cases h
      exact .inr (.inr ⟨s, i, n, rfl, rfl, Nat.le_trans hz (by decide), e, k⟩)
  · cases h
def rJoin (K : PySem.W.Frag) : V → List V → Hp → VK → Prop := fun x xs H Q => ∃ a p, ∃ ys : List Str, x = .str a ∧ xs = [.ref p] ∧ (SqL K H p (ys.map V.str) ∨ SqT K H p (ys.map V.str)) ∧ (ys.map (·.length)).sum + ys.length * a.length ≤ 16777216 ∧ Q (.str (Txt.join a ys)) H
theorem g_m1 {r : V → List V → Hp → VK → Prop} {to te : TE} {σ : L2.St} (k : to σ H fun x H1 => (∃ a, x = .str a) ∧ te σ H1 fun y H2 => r x [y] H2 Q) : tM1 r to te σ H Q := k
theorem v_isS {s : Str} {φ : Prop} (k : φ) : (∃ a, V.str s = .str a) ∧ φ := ⟨⟨s, rfl⟩, k⟩
theorem DqAll.strs : ∀ {xs : List Str} {vs : List V}, DqAll K H vs (xs.map eS) → vs = xs.map V.str
  | [], _, h => by cases h; rfl
  | x :: r, _, h => by
    cases h with
    | cons a t => rw [a.strV, DqAll.strs t]; rfl
theorem DqAll.ints : ∀ {xs : List Int} {vs : List V}, DqAll K H vs (xs.map eI) → vs = xs.map V.int
  | [], _, h => by cases h; rfl
  | x :: r, _, h => by
    cases h with
    | cons a t => rw [a.intV, DqAll.ints t]; rfl
theorem Dq.lstS {v : V} {xs : List Str} (d : Dq K H v (eL eS xs)) : ∃ a, v = .ref a ∧ SqL K H a (xs.map V.str) := by
  cases d with
  | lst h q => exact ⟨_, rfl, by rw [← q.strs]; exact h⟩
theorem Dq.lstI {v : V} {xs : List Int} (d : Dq K H v (eL eI xs)) : ∃ a, v = .ref a ∧ SqL K H a (xs.map V.int) := by
  cases d with
  | lst h q => exact ⟨_, rfl, by rw [← q.ints]; exact h⟩
theorem v_join {s : Str} {v : V} {xs : List Str} (d : Dq K H v (eL eS xs)) (hz : (xs.map (·.length)).sum + xs.length * s.length ≤ 16777216) (k : Q (.str (Txt.join s xs)) H) : rJoin K (.str s) [v] H Q := by
  obtain ⟨a, rfl, h⟩ := d.lstS
  exact ⟨s, a, xs, rfl, rfl, .inl h, hz, k⟩
theorem v_addS {s t : Str} (h : s.length + t.length ≤ 100000) (k : Q (.str (s ++ t)) H) : uAdd K (.str s) (.str t) H Q := .inr (.inl ⟨s, t, rfl, rfl, Nat.le_trans h (by decide), k⟩)
theorem v_lenS {s : Str} (h : s.length ≤ 100000) (k : Q (.int (s.length : Nat)) H) : uLen K [.str s] H Q := .inl ⟨_, _, rfl, ⟨Nat.le_trans h (by decide), rfl⟩, k⟩
theorem v_neS {i j : Str} (k : Q (.bl (!decide (i = j))) H) : uNe K (.str i) (.str j) H Q := .inl ⟨rfl, by
  have e : decide (V.str i = V.str j) = decide (i = j) := decide_eq_decide.mpr ⟨fun h => V.str.inj h, fun h => by rw [h]⟩
  rw [e]
  exact k⟩
/-- one sign in a text -/
def inSt (c s : Str) : Option Bool := match c.cps.toList with
  | [n] => some (decide (n ∈ s.cps.toList))
  | _ => none
theorem v_inSt {c s : Str} {b : Bool} (h : inSt c s = some b) (k : Q (.bl b) H) : uIn K (.str c) (.str s) H Q := by
  obtain ⟨⟨l⟩⟩ := c
  unfold inSt at h
  match l, h with
  | [n], h =>
    cases h
    exact .inr (.inr (.inr ⟨_, _, rfl, rfl, by rw [show (⟨⟨[n]⟩⟩ : Str) = ⟨#[n]⟩ from rfl, PySem.StrLaws.found_one s n]; exact k⟩))
theorem v_ninSt {c s : Str} {b : Bool} (h : inSt c s = some b) (k : Q (.bl (!b)) H) : uNotIn K (.str c) (.str s) H Q := by
  obtain ⟨⟨l⟩⟩ := c
  unfold inSt at h
  match l, h with
  | [n], h =>
    cases h
    exact .inr (.inr (.inr ⟨_, _, rfl, rfl, by rw [show (⟨⟨[n]⟩⟩ : Str) = ⟨#[n]⟩ from rfl, PySem.StrLaws.found_one s n]; exact k⟩))
end
end RC

namespace RC
open PySem PySem.Spec PyProof.Rows L2
section
variable {α β : Type} {K : PySem.W.Frag} {σ : L2.St} {H : Hp} {Q : VK} {D : Ends} {Rs : List Res} {ta tb tc te : TE} {tt s : TT} {c1 c2 : Bool} {x y z : V} {p : Addr}
/-- an expression, a test, of which the value is known and that changes nothing -/
def Pu (te : TE) (σ : L2.St) (H : Hp) (x : V) : Prop := ∀ P : VK, P x H → te σ H P
def PuT (tt : TT) (σ : L2.St) (H : Hp) (c : Bool) : Prop := ∀ P : Bool → Hp → Prop, P c H → tt σ H P
theorem g_andP {P : Bool → Hp → Prop} (h1 : PuT tt σ H c1) (h2 : PuT s σ H c2) (k : P (c1 && c2) H) : tAnd tt s σ H P := h1 _ (by
  cases c1 with
  | true => exact h2 _ k
  | false => exact k)
theorem g_orP {P : Bool → Hp → Prop} (h1 : PuT tt σ H c1) (h2 : PuT s σ H c2) (k : P (c1 || c2) H) : tOr tt s σ H P := h1 _ (by
  cases c1 with
  | true => exact k
  | false => exact h2 _ k)
theorem g_andVP (h1 : Pu ta σ H (.bl c1)) (h2 : Pu tb σ H (.bl c2)) (k : Q (.bl (c1 && c2)) H) : tAndV ta tb σ H Q := h1 _ ⟨c1, rfl, by
  cases c1 with
  | true => exact h2 _ k
  | false => exact k⟩
theorem g_orVP (h1 : Pu ta σ H (.bl c1)) (h2 : Pu tb σ H (.bl c2)) (k : Q (.bl (c1 || c2)) H) : tOrV ta tb σ H Q := h1 _ ⟨c1, rfl, by
  cases c1 with
  | true => exact k
  | false => exact h2 _ k⟩
theorem g_chainP {r r' : R2} (ha : Pu ta σ H x) (hb : Pu tb σ H y) (h1 : ∀ P : VK, P (.bl c1) H → r x y H P) (hc : Pu tc σ H z) (h2 : ∀ P : VK, P (.bl c2) H → r' y z H P) (k : Q (.bl (c1 && c2)) H) : tChain r r' ta tb tc σ H Q :=
  ha _ (hb _ (h1 _ ⟨c1, rfl, by
    cases c1 with
    | true => exact hc _ (h2 _ k)
    | false => exact k⟩))
theorem tt_cut {P : Bool → Hp → Prop} {m : (Bool → Prop) → Prop} {KK : Bool → Prop} (hf : jn m KK) (Inv : Hp → Prop) (h1 : ∀ (kk : Bool → Prop) (P' : Bool → Hp → Prop), (∀ c H, kk c → Inv H → P' c H) → m kk → tt σ H P')
    (h2 : ∀ c H, KK c → Inv H → P c H) : tt σ H P := h1 KK P h2 hf
theorem te_cut {m : (Bool → Prop) → Prop} {KK : Bool → Prop} (hf : jn m KK) (Inv : Hp → Prop) (h1 : ∀ (kk : Bool → Prop) (P' : VK), (∀ c H, kk c → Inv H → P' (.bl c) H) → m kk → te σ H P')
    (h2 : ∀ c H, KK c → Inv H → Q (.bl c) H) : te σ H Q := h1 KK Q h2 hf
theorem M.gotO {ds : List PyData} (S : M Rs H) (j : Nat) (hj : Rs[j]? = some (acR K p ds)) : Dq K H (.ref p) (.list ds) := by
  obtain ⟨vs, S1⟩ := (S.at j hj).ex
  exact .lst (SqL.of (S1.sp.got 0 rfl)) (S1.sp.gotAA 1 rfl)
theorem v_revq {e : α → PyData} {v : V} {xs : List α} (S : M Rs H) (j : Nat) (hj : Rs[j]? = some (da K v (eL e xs))) (k : ∀ p H', M (acR K p (xs.reverse.map e) :: Rs) H' → Q (.ref p) H') : RevK K Q v H := by
  obtain ⟨F, L, s, m⟩ := S
  cases EnF.at j hj F L s with
  | lst a q =>
    have hr : ∀ {vs : List V} {ds : List PyData}, DqAll K F vs ds → DqAll K F vs.reverse ds.reverse := by
      intro vs ds h
      induction vs generalizing ds with
      | nil => cases h; exact .nil
      | cons v r ih =>
        cases h with
        | cons a t =>
          rw [List.reverse_cons, List.reverse_cons]
          exact DqAll.snoc a (ih t)
    refine v_rev (⟨F, L, ⟨[], L, rfl, ⟨rfl, hr q⟩, s⟩, m⟩ : M (daA K _ _ :: Rs) H) (m.ex.sqL a) fun p H' S' => k p H' ?_
    obtain ⟨F, L, ⟨l1, l2, rfl, a1, l3, l4, rfl, ⟨rfl, q1⟩, b⟩, m⟩ := S'
    exact ⟨F, _, ⟨l1, l4, rfl, ⟨_, l1, [], by simp, a1, rfl, by rw [List.map_reverse]; exact q1⟩, b⟩, m⟩
/-- == and != of data without dicts -/
abbrev EqOk (d : PyData) : Prop := SeqAt.shaped d = true
theorem EqOk.nodict {d : PyData} (h : EqOk d) : d.hasDict = false := PyData.hasDict_of_canLay d (SeqAt.canLay_of_shaped h)
theorem v_eqq {d e : PyData} (h1 : Dq K H x d) (h2 : Dq K H y e) (s1 : EqOk d) (s2 : EqOk e) (k : Q (.bl (PyData.eqv d e)) H) : uEq K x y H Q := v_eqD (h1.dp s1.nodict) (h2.dp s2.nodict) s1 s2 k
theorem v_neq {d e : PyData} (h1 : Dq K H x d) (h2 : Dq K H y e) (s1 : EqOk d) (s2 : EqOk e) (k : Q (.bl (!PyData.eqv d e)) H) : uNe K x y H Q := v_neD (h1.dp s1.nodict) (h2.dp s2.nodict) s1 s2 k
/-- a, b = a pair -/
theorem M.openP {γ δ : Type} {e : γ → PyData} {f : δ → PyData} {v : V} {q : γ × δ} (S : M Rs H) (j : Nat) (hj : Rs[j]? = some (da K v (eP e f q))) : ∃ a u w, v = .ref a ∧ SqT K H a [u, w] ∧ M (da K u (e q.1) :: da K w (f q.2) :: Rs) H := by
  obtain ⟨F, L, s, m⟩ := S
  cases EnF.at j hj F L s with
  | tup a t =>
    cases t with
    | cons d1 t =>
      cases t with
      | cons d2 t =>
        cases t
        exact ⟨_, _, _, rfl, m.ex.sqT a, F, L, ⟨[], L, rfl, ⟨rfl, d1⟩, [], L, rfl, ⟨rfl, d2⟩, s⟩, m⟩
theorem M.openT3 {γ δ ε : Type} {e : γ → PyData} {f : δ → PyData} {g : ε → PyData} {v : V} {q : γ × δ × ε} (S : M Rs H) (j : Nat) (hj : Rs[j]? = some (da K v (eT3 e f g q))) : ∃ a u w y, v = .ref a ∧ SqT K H a [u, w, y] ∧ M (da K u (e q.1) :: da K w (f q.2.1) :: da K y (g q.2.2) :: Rs) H := by
  obtain ⟨F, L, s, m⟩ := S
  cases EnF.at j hj F L s with
  | tup a t =>
    cases t with
    | cons d1 t =>
      cases t with
      | cons d2 t =>
        cases t with
        | cons d3 t =>
          cases t
          exact ⟨_, _, _, _, rfl, m.ex.sqT a, F, L, ⟨[], L, rfl, ⟨rfl, d1⟩, [], L, rfl, ⟨rfl, d2⟩, [], L, rfl, ⟨rfl, d3⟩, s⟩, m⟩
theorem v_itLe {a : Addr} {xs : List V} {v : V} {R : It → Hp → Prop} (e : v = .ref a) (h : SqL K H a xs) (k : R (Itl K a) H) : ItL K R v H := ⟨a, e, ⟨xs, h⟩, k⟩
/-! a text, sign by sign -/
def strL (s : Str) : List Str := s.cps.toList.map fun c => ⟨#[c]⟩
theorem g_iStr {R : It → Hp → Prop} (k : te σ H fun v H1 => ∃ x, v = .str x ∧ R (Its x) H1) : iStr te σ H R := k
theorem v_itS {s : Str} {R : It → Hp → Prop} (k : R (Its s) H) : ∃ x, V.str s = .str x ∧ R (Its x) H := ⟨s, rfl, k⟩
theorem for_str {F : Str → β → (β → Prop) → Prop} {z : Str} {s0 : β} {KK : β → Prop} {g : TG} {tb : TS} (hf : forD F (strL z) s0 KK) (Inv : β → L2.St → Hp → Prop) (h0 : Inv s0 σ H)
    (hs : ∀ x s σ H (kk : β → Prop), Inv s σ H → F x s kk → g (.str x) σ H fun σ2 H2 => tb ⟨fun σ H => ∃ s', kk s' ∧ Inv s' σ H, D.rt, D.nx, fun σ H => ∃ s', kk s' ∧ Inv s' σ H⟩ σ2 H2)
    (hd : ∀ s σ H, KK s → Inv s σ H → D.nx σ H) : ForW (Its z) g tb D σ H := by
  have hl : (strL z).length = z.cps.size := by simp [strL]
  refine for_W walk_str (fun i σ H => ∃ s, forD F ((strL z).drop i) s KK ∧ Inv s σ H) ⟨s0, by simpa using hf, h0⟩ (fun _ _ _ _ _ => trivial) ?_ ?_
  · rintro i v σ H H' hi ⟨s, hf, h⟩ ⟨rfl, c, hc, rfl⟩
    have hi2 : i < (strL z).length := by rw [hl]; exact hi
    rw [List.drop_eq_getElem_cons hi2] at hf
    have e : (strL z)[i] = ⟨#[c]⟩ := by
      have : (strL z)[i]? = some ⟨#[c]⟩ := by
        unfold strL
        rw [List.getElem?_map, Array.getElem?_toList, hc]
        rfl
      exact Option.some.inj ((List.getElem?_eq_getElem hi2).symm.trans this)
    rw [e] at hf
    exact hs _ s σ H' _ h hf
  · rintro σ H ⟨s, hf, h⟩
    rw [← hl, List.drop_length] at hf
    exact hd s σ H hf h
/-! isinstance -/
theorem sqL_ty {a : Addr} {xs : List V} (h : SqL K H a xs) : TyX K H (.ref a) (.type "list") := by
  rcases h with (h | ⟨o, h⟩) | ⟨o, its, n, h, hc, _⟩
  · exact .base (.lst h)
  · exact .base (.frz h)
  · exact .kList h hc
theorem sqT_ty {a : Addr} {xs : List V} (h : SqT K H a xs) : TyX K H (.ref a) (.type "tuple") := by
  rcases h with (h | ⟨o, h⟩) | ⟨o, its, n, h, hc, _⟩
  · exact .base (.tup h)
  · exact .fTuple h
  · exact .kTuple h hc
def tyN : PyData → String
  | .none => "NoneType"
  | .bool _ => "bool"
  | .int _ => "int"
  | .str _ => "str"
  | .list _ => "list"
  | .tuple _ => "tuple"
  | .dict _ => "dict"
def isA (c : String) (d : PyData) : Bool := decide (tyN d = c) || (decide (tyN d = "bool") && decide (c = "int"))
theorem Dq.ty {v : V} {d : PyData} (h : Dq K H v d) : TyX K H v (.type (tyN d)) := by
  cases h with
  | non => exact .base .non
  | bl b => exact .base (.bl b)
  | int i => exact .base (.int i)
  | str x => exact .base (.str x)
  | lst h _ => exact sqL_ty h
  | tup h _ => exact sqT_ty h
  | dct h _ => exact .base (.dK h)
theorem kit_all : ∀ t ∈ ["NoneType", "bool", "int", "str", "list", "tuple", "dict"], ∀ c ∈ ["int", "bool", "str", "list", "tuple", "dict"], kitB t c = some (decide (t = c) || (decide (t = "bool") && decide (c = "int"))) := by decide +kernel
theorem v_isq {v : V} {d : PyData} {c : String} {b : Bool} (h : Dq K H v d) (hc : c ∈ ["int", "bool", "str", "list", "tuple", "dict"]) (hb : isA c d = b) (k : Q (.bl b) H) : rIsi K [v, .ty c] H Q := by
  subst hb
  exact v_isi h.ty (kit_ty (kit_all _ (by cases d <;> simp [tyN]) c hc)) k
theorem M.spN2 {A B : Res} (S : M (sp2 A B :: Rs) H) : M (A :: B :: Rs) H := S.sp
theorem M.spN3 {A B C : Res} (S : M (sp2 A (sp2 B C) :: Rs) H) : M (A :: B :: C :: Rs) H := M.sub (.cons 2 rfl (.refl _)) (S.sp.at 1 rfl).spN2
theorem M.spN4 {A B C E : Res} (S : M (sp2 A (sp2 B (sp2 C E)) :: Rs) H) : M (A :: B :: C :: E :: Rs) H := M.sub (.cons 3 rfl (.refl _)) (S.sp.at 1 rfl).spN3
theorem M.spN5 {A B C E G : Res} (S : M (sp2 A (sp2 B (sp2 C (sp2 E G))) :: Rs) H) : M (A :: B :: C :: E :: G :: Rs) H := M.sub (.cons 4 rfl (.refl _)) (S.sp.at 1 rfl).spN4
theorem M.spM2 {A B : Res} (S : M (A :: B :: Rs) H) : M (sp2 A B :: Rs) H := S.sp'
theorem M.spM3 {A B C : Res} (S : M (A :: B :: C :: Rs) H) : M (sp2 A (sp2 B C) :: Rs) H := ((M.spM2 (M.sub (.cons 1 rfl (.cons 1 rfl (.refl _))) S)).at 1 rfl).sp'
theorem M.spM4 {A B C E : Res} (S : M (A :: B :: C :: E :: Rs) H) : M (sp2 A (sp2 B (sp2 C E)) :: Rs) H := ((M.spM3 (M.sub (.cons 1 rfl (.cons 1 rfl (.cons 1 rfl (.refl _)))) S)).at 1 rfl).sp'
theorem M.spM5 {A B C E G : Res} (S : M (A :: B :: C :: E :: G :: Rs) H) : M (sp2 A (sp2 B (sp2 C (sp2 E G))) :: Rs) H := ((M.spM4 (M.sub (.cons 1 rfl (.cons 1 rfl (.cons 1 rfl (.cons 1 rfl (.refl _))))) S)).at 1 rfl).sp'
end
end RC

namespace RC
open PySem PySem.Spec PyProof.Rows L2
/-! ### lists of numbers, of texts: what they are now is enough -/
structure Fl {α : Type} (e : α → PyData) (sv : α → V) : Prop where
  to : ∀ {K : PySem.W.Frag} {H : Hp} {v : V} {x : α}, Dq K H v (e x) → v = sv x
  of : ∀ (K : PySem.W.Frag) (H : Hp) (x : α), Dq K H (sv x) (e x)
theorem flI : Fl eI V.int := ⟨Dq.intV, fun _ _ x => .int x⟩
theorem flS : Fl eS V.str := ⟨Dq.strV, fun _ _ x => .str x⟩
theorem flB : Fl eB V.bl := ⟨Dq.blV, fun _ _ x => .bl x⟩
/-- a resource by which v is d -/
def Brw (R : Res) (K : PySem.W.Frag) (v : V) (d : PyData) : Prop := ∀ Rs H, M (R :: Rs) H → Dq K H v d
section
variable {α β : Type} {e : α → PyData} {sv : α → V} {K : PySem.W.Frag} {σ : L2.St} {H : Hp} {Q : VK} {D : Ends} {Rs : List Res} {v w : V} {xs ys : List α} {p : Addr}
theorem Brw.da {d : PyData} : Brw (da K v d) K v d := fun _ _ S => S.gotA 0 rfl
theorem Brw.ac {ds : List PyData} : Brw (acR K p ds) K (.ref p) (.list ds) := fun _ _ S => S.gotO 0 rfl
theorem Fl.all (f : Fl e sv) : ∀ {vs : List V} {xs : List α}, DqAll K H vs (xs.map e) → vs = xs.map sv
  | _, [], h => by cases h; rfl
  | _, x :: r, h => by
    cases h with
    | cons a t => rw [f.to a, Fl.all f t]; rfl
theorem Fl.ofA (f : Fl e sv) : ∀ xs : List α, DqAll K H (xs.map sv) (xs.map e)
  | [] => .nil
  | x :: r => .cons (f.of K H x) (Fl.ofA f r)
theorem Fl.lst (f : Fl e sv) (d : Dq K H v (eL e xs)) : ∃ a, v = .ref a ∧ SqL K H a (xs.map sv) := by
  cases d with
  | lst h q => exact ⟨_, rfl, by rw [← f.all q]; exact h⟩
theorem v_ixN (f : Fl e sv) (d : Dq K H v (eL e xs)) {i : Int} {x : α} (hx : atI xs i = some x) (k : Q (sv x) H) : uIx K v (.int i) H Q := by
  obtain ⟨a, rfl, h⟩ := f.lst d
  exact v_ixL h (atI_map hx) k
theorem v_lenN (d : Dq K H v (eL e xs)) (k : Q (.int (xs.length : Nat)) H) : uLen K [v] H Q := by
  cases d with
  | lst h q =>
    have := q.len
    rw [List.length_map] at this
    exact v_lenL h (by rw [this]; exact k)
theorem M.ownF (f : Fl e sv) {q : Addr} (S : M (pt q (.lst (xs.map sv)) :: Rs) H) : M (acR K q (xs.map e) :: Rs) H := S.own (EnF.all fun F => f.ofA xs)
theorem v_liN (f : Fl e sv) (S : M Rs H) (d : Dq K H v (eL e xs)) (k : ∀ p H', M (acR K p (xs.map e) :: Rs) H' → Q (.ref p) H') : rListOf K [v] H Q := by
  obtain ⟨a, rfl, h⟩ := f.lst d
  exact v_list S (.inl h) fun p H' S' => k p H' (S'.ownF f)
theorem cutV_map (f : α → V) (xs : List α) (lo hi : Option Int) : cutV (xs.map f) lo hi = (cutL xs lo hi).map f := cutL_map f xs lo hi
theorem v_slN (f : Fl e sv) (S : M Rs H) (d : Dq K H v (eL e xs)) {lo hi : Option Int} (k : ∀ p H', M (acR K p ((cutL xs lo hi).map e) :: Rs) H' → Q (.ref p) H') : uSl K v lo hi H Q := by
  obtain ⟨a, rfl, h⟩ := f.lst d
  refine v_slL S h fun p H' S' => k p H' ?_
  rw [cutV_map] at S'
  exact S'.ownF f
theorem v_catN (f : Fl e sv) (S : M Rs H) (d : Dq K H v (eL e xs)) (d2 : Dq K H w (eL e ys)) (hz : xs.length + ys.length ≤ 100000) (k : ∀ p H', M (acR K p ((xs ++ ys).map e) :: Rs) H' → Q (.ref p) H') : uAdd K v w H Q := by
  obtain ⟨a, rfl, h⟩ := f.lst d
  obtain ⟨b, rfl, h2⟩ := f.lst d2
  refine v_catS S h h2 (by rw [List.length_map, List.length_map]; exact hz) fun p H' S' => k p H' ?_
  rw [← List.map_append] at S'
  exact S'.ownF f
theorem v_revN (f : Fl e sv) (S : M Rs H) (d : Dq K H v (eL e xs)) (k : ∀ p H', M (acR K p (xs.reverse.map e) :: Rs) H' → Q (.ref p) H') : RevK K Q v H := by
  obtain ⟨a, rfl, h⟩ := f.lst d
  refine v_rev S h fun p H' S' => k p H' ?_
  rw [← List.map_reverse] at S'
  exact S'.ownF f
def ItN (K : PySem.W.Frag) (v : V) (g : TG) (tb : TS) (D : Ends) (σ : L2.St) (H : Hp) : Prop := ItL K (fun J H1 => ForW J g tb D σ H1) v H
theorem for_N (f : Fl e sv) {F : α → β → (β → Prop) → Prop} {s0 : β} {KK : β → Prop} {g : TG} {tb : TS} (hf : forD F xs s0 KK) (Inv : β → L2.St → Hp → Prop) (h0 : Inv s0 σ H)
    (hrd : ∀ s σ H, Inv s σ H → Dq K H v (eL e xs))
    (hs : ∀ x s σ H (kk : β → Prop), Inv s σ H → F x s kk → g (sv x) σ H fun σ2 H2 => tb ⟨fun σ H => ∃ s', kk s' ∧ Inv s' σ H, D.rt, D.nx, fun σ H => ∃ s', kk s' ∧ Inv s' σ H⟩ σ2 H2)
    (hd : ∀ s σ H, KK s → Inv s σ H → D.nx σ H) : ItL K (fun J H1 => ForW J g tb D σ H1) v H := by
  obtain ⟨a, rfl, h⟩ := f.lst (hrd s0 σ H h0)
  have hrd' : ∀ s σ H, Inv s σ H → SqL K H a (xs.map sv) := fun s σ H h => by
    obtain ⟨b, eb, q⟩ := f.lst (hrd s σ H h)
    cases eb
    exact q
  refine v_itL h (for_lst (e := e) hf Inv h0 (fun s σ H h => ⟨hrd' s σ H h, f.ofA xs⟩) (fun i v x s σ H kk h hv hx hF => ?_) hd)
  rw [List.getElem?_map, hx] at hv
  cases hv
  exact hs x s σ H kk h hF
theorem lc_N (f : Fl e sv) {te : TE} {tt : TT} {g : TG} {ws : List Nat} {F : α → (Option β → Prop) → Prop} {e' : β → PyData} {KK : List β → Prop} (hf : xs.length ≤ 100000 ∧ lcD F xs [] KK) (S : M Rs H) (hrd : ∀ H, M Rs H → Dq K H v (eL e xs))
    (hs : ∀ x (acc : List β) E H (kk : Option β → Prop) (N : Hp → Prop), (acc.map e').length < 100000 → M (acR K E (acc.map e') :: Rs) H → F x kk →
      (∀ y H, kk (some y) → M (acR K E (acc.map e' ++ [e' y]) :: Rs) H → N H) → (∀ H, kk none → M (acR K E (acc.map e') :: Rs) H → N H) → g (sv x) (wipe σ ws) H fun σ2 H2 => wipe σ2 ws = wipe σ ws ∧ tt σ2 H2 fun b H3 =>
      if b = true then te σ2 H3 (LcK N E) else N H3)
    (hd : ∀ E (acc : List β) H, KK acc → M (acR K E (acc.map e') :: Rs) H → Q (.ref E) H) : ItL K (fun J H1 => LcW J g tt te ws σ Q H1) v H := by
  obtain ⟨a, rfl, h⟩ := f.lst (hrd H S)
  refine v_itL h (lc_lst (e := e) hf S (fun H S => ⟨?_, f.ofA xs⟩) (fun i v x acc E H kk N hl S hv hx hF k1 k2 => ?_) hd)
  · obtain ⟨b, eb, q⟩ := f.lst (hrd H S)
    cases eb
    exact q
  · rw [List.getElem?_map, hx] at hv
    cases hv
    exact hs x acc E H kk N hl S hF k1 k2
/-! ### dict comprehensions -/
def DcW (J : It) (g : TG) (tt : TT) (tk tv : TE) (vs : List Nat) (σ : L2.St) (Q : VK) (H1 : Hp) : Prop := ∀ D, H1 D = none → ∃ W : Nat → Nat → Hp → Prop, (∃ m, W 0 m (upd H1 D (.dK []))) ∧ ∀ i m H, W i m H →
  (J.stop i H ∧ Q (.ref D) H) ∨ (J.go i H ∧ ∃ Nx : Hp → Prop, (∀ H', Nx H' → ∃ m', m' < m ∧ W (i + 1) m' H') ∧ ∀ x H', J.yld i H x H' → g x (wipe σ vs) H' fun σ2 H2 => wipe σ2 vs = wipe σ vs ∧ tt σ2 H2 fun b H3 =>
    if b = true then tk σ2 H3 fun y H4 => tv σ2 H4 fun z H5 => ∃ kvs k, y = kV k ∧ H5 D = some (.dK kvs) ∧ kvs.length < sizeLine ∧ Nx (upd H5 D (.dK (putK kvs k z))) else Nx H3)
theorem g_dc {wi : TI} {g : TG} {tt : TT} {tk tv : TE} {vs : List Nat} (k : wi σ H fun J H1 => DcW J g tt tk tv vs σ Q H1) : tDc wi g tt tk tv vs σ H Q := k
def DcK (N : Hp → Prop) (D : Addr) (y : V) : VK := fun z H5 => ∃ kvs k, y = kV k ∧ H5 D = some (.dK kvs) ∧ kvs.length < sizeLine ∧ N (upd H5 D (.dK (putK kvs k z)))
def dcD {κ γ δ : Type} [DecidableEq κ] (f : δ → List (κ × γ) → (Option (κ × γ) → Prop) → Prop) : List δ → List (κ × γ) → (List (κ × γ) → Prop) → Prop
  | [], acc, k => k acc
  | x :: xs, acc, k => f x acc fun y => dcD f xs (match y with | none => acc | some q => pk acc q.1 q.2) k
theorem pk_len {κ γ : Type} [DecidableEq κ] (m : List (κ × γ)) (k : κ) (x : γ) : (pk m k x).length ≤ m.length + 1 := by
  unfold pk
  split
  · rw [List.length_map]; omega
  · rw [List.length_append]; exact Nat.le_refl _
theorem dc_N {κ γ : Type} [DecidableEq κ] {ik : κ → Key} (f : Fl e sv) {tk tv : TE} {tt : TT} {g : TG} {ws : List Nat} {F : α → List (κ × γ) → (Option (κ × γ) → Prop) → Prop} {e' : γ → PyData} {KK : List (κ × γ) → Prop} (hf : xs.length ≤ 100000 ∧ dcD F xs [] KK) (S : M Rs H) (hrd : ∀ H, M Rs H → Dq K H v (eL e xs))
    (hs : ∀ x (acc : List (κ × γ)) E H (kk : Option (κ × γ) → Prop) (N : Hp → Prop), acc.length < 100000 → M (adR K ik e' E acc :: Rs) H → F x acc kk →
      (∀ q H, kk (some q) → M (adR K ik e' E (pk acc q.1 q.2) :: Rs) H → N H) → (∀ H, kk none → M (adR K ik e' E acc :: Rs) H → N H) → g (sv x) (wipe σ ws) H fun σ2 H2 => wipe σ2 ws = wipe σ ws ∧ tt σ2 H2 fun b H3 =>
      if b = true then tk σ2 H3 fun y H4 => tv σ2 H4 (DcK N E y) else N H3)
    (hd : ∀ E (acc : List (κ × γ)) H, KK acc → M (adR K ik e' E acc :: Rs) H → Q (.ref E) H) : ItL K (fun J H1 => DcW J g tt tk tv ws σ Q H1) v H := by
  obtain ⟨a, rfl, h⟩ := f.lst (hrd H S)
  refine v_itL h ?_
  obtain ⟨hz, hf⟩ := hf
  intro E hE
  have w := walk_list (K := K) (a := a) (xs := xs.map sv)
  refine ⟨fun i m H => m = xs.length - i ∧ i ≤ xs.length ∧ ∃ acc, dcD F (xs.drop i) acc KK ∧ acc.length ≤ i ∧ M (adR K ik e' E acc :: Rs) H, ⟨_, rfl, Nat.zero_le _, [], by simpa using hf, Nat.le_refl _, ?_⟩, ?_⟩
  · obtain ⟨F, L, s, mm⟩ := S.new (o := .dK []) hE
    obtain ⟨l1, l2, rfl, a1, b1⟩ := s
    exact ⟨F, _, ⟨l1, l2, rfl, ⟨[], l1, [], by simp, a1, rfl, .nil⟩, b1⟩, mm⟩
  · rintro i m H1 ⟨rfl, hi, acc, hf, ha, S1⟩
    have hq : SqL K H1 a (xs.map sv) := by
      obtain ⟨b, eb, q⟩ := f.lst (hrd H1 S1.tl)
      cases eb
      exact q
    rcases Nat.lt_or_ge i xs.length with hlt | hge
    · right
      rw [List.drop_eq_getElem_cons hlt] at hf
      refine ⟨⟨xs.map sv, sv xs[i], hq, by rw [List.getElem?_map, List.getElem?_eq_getElem hlt]; rfl⟩, fun H => ∃ acc, dcD F (xs.drop (i + 1)) acc KK ∧ acc.length ≤ i + 1 ∧ M (adR K ik e' E acc :: Rs) H, fun H' h => ⟨xs.length - (i + 1), by omega, rfl, hlt, h⟩, ?_⟩
      rintro x H' ⟨rfl, hx⟩
      have hx' := hx _ hq
      rw [List.getElem?_map, List.getElem?_eq_getElem hlt] at hx'
      cases hx'
      exact hs _ acc E H' _ _ (by omega) S1 hf (fun q H hk S => ⟨_, hk, Nat.le_trans (pk_len _ _ _) (by omega), S⟩) (fun H hk S => ⟨acc, hk, by omega, S⟩)
    · left
      have e0 : i = xs.length := by omega
      subst e0
      rw [List.drop_length] at hf
      exact ⟨⟨xs.map sv, hq, by rw [List.length_map]; exact Nat.le_refl _⟩, hd E acc H1 hf S1⟩
theorem v_dcS {γ : Type} {e' : γ → PyData} {N : Hp → Prop} {E : Addr} {acc : List (Str × γ)} {n : Str} {x : γ} {y : V} (S : M Rs H) (j : Nat) (hj : Rs[j]? = some (adR K iS e' E acc)) (h : EnF Rs (fun F => Dq K F y (e' x))) (hz : acc.length < 100000)
    (k : ∀ H', M (adR K iS e' E (pk acc n x) :: Rs.eraseIdx j) H' → N H') : DcK N E (.str n) y H := by
  obtain ⟨kvs, h1, h2, S2⟩ := putd_core (k := n) injS S j hj h
  exact ⟨kvs, Sum.inr n, rfl, h1, Nat.lt_of_lt_of_le (by rw [h2]; exact hz) (by decide), k _ S2⟩
theorem v_dcI {γ : Type} {e' : γ → PyData} {N : Hp → Prop} {E : Addr} {acc : List (Int × γ)} {n : Int} {x : γ} {y : V} (S : M Rs H) (j : Nat) (hj : Rs[j]? = some (adR K iI e' E acc)) (h : EnF Rs (fun F => Dq K F y (e' x))) (hz : acc.length < 100000)
    (k : ∀ H', M (adR K iI e' E (pk acc n x) :: Rs.eraseIdx j) H' → N H') : DcK N E (.int n) y H := by
  obtain ⟨kvs, h1, h2, S2⟩ := putd_core (k := n) injI S j hj h
  exact ⟨kvs, Sum.inl n, rfl, h1, Nat.lt_of_lt_of_le (by rw [h2]; exact hz) (by decide), k _ S2⟩
end
end RC

namespace RC
open PySem PySem.Spec PyProof.Rows L2
/-- where the modules stand, a dict stands -/
def SysD (h : Heap) : Prop := ∃ o es ep, h.get? sysModules = some o ∧ o.data = .dict es ep
def NDX (h : Heap) : Prop := h.NoDigits ∧ SysD h
theorem SysD.keep {h h' : Heap} (x : SysD h) (k : ∀ b o, h.get? b = some o → h'.get? b = some o) : SysD h' := by
  obtain ⟨o, es, ep, a, b⟩ := x
  exact ⟨o, es, ep, k _ _ a, b⟩
theorem SysD.ne {h : Heap} (x : SysD h) {a : Addr} {o : Obj} {vs : Array Value} {n : Nat} (e : h.get? a = some o) (d : o.data = .seq vs n) : a ≠ sysModules := by
  rintro rfl
  obtain ⟨o', es, ep, a1, b1⟩ := x
  rw [e] at a1
  cases a1
  rw [d] at b1
  cases b1
section
variable {X : Cx} {pins : List (Addr × Obj)} {σ : L2.St} {H : Hp} {s : Shared}
theorem key_reads {k : Key} {u : Value} {h : Heap} (hk : keyIs k u = true) : Reads h u (kD k) [] := by
  rcases keyIs_shape hk with ⟨i, t, rfl, rfl⟩ | ⟨x, t, rfl, rfl⟩
  · exact .int i t
  · exact .str x t
mutual
theorem Dq.reads (I : Inv X pins σ H s) (sy : SysD s.heap) : ∀ {v : V} {d : PyData}, Dq X.K H v d → ∀ {u : Value}, RelV v u → ∃ as, Reads s.heap u d as ∧ sysModules ∉ as
  | _, _, .non, _, r => by cases r; exact ⟨_, .none, by simp⟩
  | _, _, .bl b, _, r => by cases r; exact ⟨_, .bool b, by simp⟩
  | _, _, .int i, _, r => by obtain ⟨t, rfl⟩ := r; exact ⟨_, .int i t, by simp⟩
  | _, _, .str x, _, r => by obtain ⟨t, rfl⟩ := r; exact ⟨_, .str x t, by simp⟩
  | _, _, .lst h q, _, r => by
    cases r
    obtain ⟨its, rv, ⟨o, n, ho, hc, _, hd⟩, _⟩ := I.list h
    obtain ⟨as, hr, hn⟩ := DqAll.reads I sy q rv
    refine ⟨_, .list ho hc hd hr, ?_⟩
    intro z
    rcases List.mem_cons.mp z with z | z
    · exact sy.ne ho hd z.symm
    · exact hn z
  | _, _, .tup h q, _, r => by
    cases r
    obtain ⟨its, rv, ⟨o, ho, hc, n, hd⟩, _⟩ := I.tuple h
    obtain ⟨as, hr, hn⟩ := DqAll.reads I sy q rv
    exact ⟨_, .tuple ho hc hd hr, hn⟩
  | _, _, .dct h q, _, r => by
    cases r
    obtain ⟨_, hm, vs, rv, o, es, ep, ho, hx, hd, hk, hp, _⟩ := dk_of I.hok h
    obtain ⟨as, bs, h1, h2, n1, n2⟩ := DqKv.reads I sy q rv hp
    refine ⟨_, .dict ho hx.1 hd h1 h2, ?_⟩
    intro z
    rcases List.mem_cons.mp z with z | z
    · rw [← z] at hm
      simp at hm
    · rcases List.mem_append.mp z with z | z
      · exact n1 z
      · exact n2 z
theorem DqAll.reads (I : Inv X pins σ H s) (sy : SysD s.heap) : ∀ {vs : List V} {ds : List PyData}, DqAll X.K H vs ds → ∀ {us : List Value}, Vals vs us → ∃ as, ReadsAll s.heap us ds as ∧ sysModules ∉ as
  | _, _, .nil, _, r => by cases r; exact ⟨_, .nil, by simp⟩
  | _, _, .cons h t, _, r => by
    cases r with
    | cons r1 r2 =>
      obtain ⟨as, h1, n1⟩ := Dq.reads I sy h r1
      obtain ⟨bs, h2, n2⟩ := DqAll.reads I sy t r2
      exact ⟨_, .cons h1 h2, by simp [n1, n2]⟩
theorem DqKv.reads (I : Inv X pins σ H s) (sy : SysD s.heap) : ∀ {kvs : List (Key × V)} {ds : List (PyData × PyData)}, DqKv X.K H kvs ds → ∀ {vs : List (Key × Value)} {es : List DictEntry}, KV kvs vs → Pairs (mixKind X.prog X.w) es vs →
    ∃ as bs, ReadsAll s.heap (es.map (·.key)) (ds.map (·.1)) as ∧ ReadsAll s.heap (es.map (·.val)) (ds.map (·.2)) bs ∧ sysModules ∉ as ∧ sysModules ∉ bs
  | _, _, .nil, _, _, r, p => by
    cases r
    cases p
    exact ⟨_, _, .nil, .nil, by simp, by simp⟩
  | _, _, .cons h t, _, _, r, p => by
    cases r with
    | cons r1 r2 =>
      cases p with
      | cons k1 v1 p2 =>
        obtain ⟨e1, e2⟩ := r1
        obtain ⟨as, bs, h1, h2, n1, n2⟩ := DqKv.reads I sy t r2 p2
        rw [← v1] at e2
        obtain ⟨cs, h3, n3⟩ := Dq.reads I sy h e2
        rw [← e1] at k1
        exact ⟨_, _, .cons (key_reads k1) h1, .cons h3 h2, by simpa using n1, by simp [n3, n2]⟩
end
end
section
variable {X : Cx}
theorem SysD.now {pins : List (Addr × Obj)} {σ : L2.St} {H : Hp} {s : Shared} (x : SysD X.base) (I : Inv X pins σ H s) : SysD s.heap := x.keep fun b o e => (I.env0.bs b o e).1
/-- repr of data of any depth -/
def rReprQ (K : PySem.W.Frag) : List V → Hp → VK → Prop := fun xs H Q => ∃ v d, xs = [v] ∧ Dq K H v d ∧ d.showable = true ∧ d.depth ≤ 60 ∧ d.shown.length ≤ sizeLine ∧ Q (.str d.shown) H
theorem cr_reprQ (hy : SysD X.base) (hg : X.A.guards = some []) (hu : X.A.units + 64 < cLine) : CallR X (.builtin "repr") (rReprQ X.K) := by
  intro pins s σ H xs us Q I r h
  obtain ⟨v, d, rfl, hd, hs, hp, hz, q⟩ := h
  obtain ⟨u, rfl, ru⟩ := vals1 r
  obtain ⟨as, rd, ns⟩ := hd.reads I (hy.now I) ru
  cases hd with
  | non =>
    cases (show u = Value.none from ru)
    refine PySem.P.repr_of_none ⟨.str _, H, I.tok _, ⟨_, rfl⟩, ?_⟩
    simpa only [PyData.shown] using q
  | bl b =>
    cases (show u = Value.bool b from ru)
    refine PySem.P.repr_of_bool ⟨.str _, H, I.tok _, ⟨_, rfl⟩, ?_⟩
    simpa only [PyData.shown] using q
  | int i =>
    obtain ⟨t, rfl⟩ := ru
    refine PySem.P.repr_of_int (by simpa [PyData.showable] using hs) ⟨.str _, H, I.tok _, ⟨_, rfl⟩, ?_⟩
    simpa only [PyData.shown] using q
  | str x =>
    obtain ⟨t, rfl⟩ := ru
    refine PySem.P.repr_of_str ⟨.str _, H, I.tok _, ⟨_, rfl⟩, ?_⟩ (by simpa only [PyData.shown] using hz)
    simpa only [PyData.shown] using q
  | lst h1 h2 =>
    cases ru
    exact repr_of_reads' rd hs (fun _ => ns) hg (by omega) (fun _ _ e => e) (fun h' u tk k => ⟨.str _, H, I.kept k, ⟨_, rfl⟩, q⟩) hz
  | tup h1 h2 =>
    cases ru
    exact repr_of_reads' rd hs (fun _ => ns) hg (by omega) (fun _ _ e => e) (fun h' u tk k => ⟨.str _, H, I.kept k, ⟨_, rfl⟩, q⟩) hz
  | dct h1 h2 =>
    cases ru
    exact repr_of_reads' rd hs (fun _ => ns) hg (by omega) (fun _ _ e => e) (fun h' u tk k => ⟨.str _, H, I.kept k, ⟨_, rfl⟩, q⟩) hz
/-! equal data -/
end
def EqW (K : PySem.W.Frag) (H : Hp) : Nat → V → V → Prop
  | 0 => fun _ _ => False
  | n + 1 => fun x y => (∃ d, Dp K H x d ∧ Dp K H y d ∧ SeqAt.shaped d = true) ∨ EqR K H (EqW K H n) x y
theorem shaped_depth {d : PyData} (h : SeqAt.shaped d = true) : d.canLay0 = true ∧ d.depth ≤ 64 := by
  unfold SeqAt.shaped at h
  rw [Bool.and_eq_true] at h
  exact ⟨h.1, of_decide_eq_true h.2⟩
section
variable {X : Cx} {pins : List (Addr × Obj)} {σ : L2.St} {H : Hp} {s : Shared}
theorem eqW_run (I : Inv X pins σ H s) : ∀ (n : Nat) (A : Around), A.units + n + 65 < cLine → ∀ (x y : V) (v u : Value), EqW X.K H n x y → RelV x v → RelV y u → SeqAt.EqP X.prog X.w A s v u true
  | 0, _, _, _, _, _, _, h, _, _ => (show False from h).elim
  | n + 1, A, hu, x, y, v, u, h, rx, ry => by
    rcases h with ⟨d, d1, d2, sh⟩ | h
    · obtain ⟨as, r1⟩ := Dp.reads I d x v d1 rx
      obtain ⟨bs, r2⟩ := Dp.reads I d y u d2 ry
      have hd := shaped_depth sh
      have := SeqAt.eqAt_reads d d A s v u as bs r1 r2 hd.1 hd.1 (by omega)
      rw [SeqAt.eqv_refl d hd.1] at this
      exact this.eqP
    · have step := eqR_run I (A := A) (by omega) (eqW_run I n A.in1 (by show A.units + 1 + n + 65 < cLine; omega)) h rx ry
      obtain ⟨a, b, rfl, rfl⟩ : ∃ a b, x = .ref a ∧ y = .ref b := by
        rcases h with ⟨a, b, _, _, e1, e2, _⟩ | ⟨a, b, _, _, e1, e2, _⟩
        · exact ⟨a, b, e1, e2⟩
        · exact ⟨a, b, e1, e2⟩
      cases (show v = Value.ref a from rx)
      cases (show u = Value.ref b from ry)
      by_cases e : a = b
      · subst e
        exact (SeqAt.EqAt.same _).eqP
      · exact SeqAt.eqP_refs e step
end
mutual
/-- its dicts have each key once; what is no dict is of the plain shape -/
def dOk : PyData → Prop
  | .list ds => dOkA ds
  | .dict kvs => (kvs.map (·.1)).Nodup ∧ dOkK kvs
  | .tuple ds => SeqAt.shaped (.tuple ds) = true
  | .none => True
  | .bool _ => True
  | .int _ => True
  | .str x => SeqAt.shaped (.str x) = true
def dOkA : List PyData → Prop
  | [] => True
  | d :: r => dOk d ∧ dOkA r
def dOkK : List (PyData × PyData) → Prop
  | [] => True
  | p :: r => dOk p.2 ∧ dOkK r
end
section
variable {K : PySem.W.Frag} {H : Hp}
theorem kD_inj {a b : Key} (h : kD a = kD b) : a = b := by
  cases a <;> cases b <;> simp [kD] at h <;> rw [h]
theorem DqKv.key : ∀ {kvs : List (Key × V)} {ds : List (PyData × PyData)}, DqKv K H kvs ds → ds.map (·.1) = (kvs.map (·.1)).map kD
  | _, _, .nil => rfl
  | _, _, .cons h t => by
    have := DqKv.key t
    simp only [List.map_cons] at this ⊢
    rw [this]
theorem nd_of_map {γ δ : Type} (f : γ → δ) : ∀ {l : List γ}, (l.map f).Nodup → l.Nodup
  | [], _ => List.nodup_nil
  | x :: r, h => by
    rw [List.map_cons, List.nodup_cons] at h
    exact List.nodup_cons.mpr ⟨fun z => h.1 (List.mem_map.mpr ⟨x, z, rfl⟩), nd_of_map f h.2⟩
theorem valV_nd : ∀ {ls : List (Key × V)} {i : Nat} {k : Key} {u : V}, (ls.map (·.1)).Nodup → ls[i]? = some (k, u) → valV ls k = some u
  | [], i, k, u, _, h => by simp at h
  | q :: r, 0, k, u, _, h => by
    cases (Option.some.inj (show some q = some (k, u) from h))
    exact valV_pos rfl
  | q :: r, i + 1, k, u, nd, h => by
    have nd' := List.nodup_cons.mp nd
    have h' : r[i]? = some (k, u) := by simpa using h
    rw [valV_neg]
    · exact valV_nd nd'.2 h'
    · intro e
      exact nd'.1 (List.mem_map.mpr ⟨(k, u), List.mem_of_getElem? h', e.symm⟩)
mutual
theorem Dq.eqW : ∀ {x y : V} {d : PyData} {n : Nat}, Dq K H x d → Dq K H y d → dOk d → d.depth < n → EqW K H n x y
  | _, _, _, 0, _, _, _, hn => absurd hn (Nat.not_lt_zero _)
  | _, _, _, n + 1, .non, h, _, _ => by cases h; exact .inl ⟨_, .non, .non, by decide⟩
  | _, _, _, n + 1, .bl b, h, _, _ => by cases h; exact .inl ⟨_, .bl b, .bl b, by cases b <;> decide⟩
  | _, _, _, n + 1, .int i, h, _, _ => by cases h; exact .inl ⟨_, .int i, .int i, rfl⟩
  | _, _, _, n + 1, .str z, h, ok, _ => by cases h; exact .inl ⟨_, .str z, .str z, ok⟩
  | _, _, _, n + 1, .tup a q, h, ok, _ => by
    have ok' : SeqAt.shaped _ = true := ok
    exact .inl ⟨_, (Dq.tup a q).dp (PyData.hasDict_of_canLay _ (shaped_depth ok').1), h.dp (PyData.hasDict_of_canLay _ (shaped_depth ok').1), ok'⟩
  | _, _, _, n + 1, .lst a q, h, ok, hn => by
    cases h with
    | lst b q2 => exact .inr (.inl ⟨_, _, _, _, rfl, rfl, a, b, DqAll.eqW q q2 ok (by simpa [PyData.depth] using hn)⟩)
  | _, _, _, n + 1, .dct (ds := ds) a q, h, ok, hn => by
    cases h with
    | @dct _ kvs2 _ b q2 =>
      have ok' : (ds.map (·.1)).Nodup ∧ dOkK ds := ok
      have hl : PyData.depthKv ds < n := by simpa [PyData.depth] using hn
      obtain ⟨h1, h2⟩ := DqKv.eqW q q2 ok'.2 hl
      refine .inr (.inr ⟨_, _, _, _, rfl, rfl, a, b, h1, fun p hp => ?_⟩)
      obtain ⟨i, hi⟩ := List.getElem?_of_mem hp
      obtain ⟨u, hu, hw⟩ := h2 i p hi
      refine ⟨u, ?_, hw⟩
      have nd : (kvs2.map (·.1)).Nodup := by
        have := ok'.1
        rw [q2.key] at this
        exact nd_of_map _ this
      exact valV_nd nd hu
theorem DqKv.eqW : ∀ {xs ys : List (Key × V)} {ds : List (PyData × PyData)} {n : Nat}, DqKv K H xs ds → DqKv K H ys ds → dOkK ds → PyData.depthKv ds < n →
    xs.length = ys.length ∧ ∀ (i : Nat) (p : Key × V), xs[i]? = some p → ∃ u, ys[i]? = some (p.1, u) ∧ EqW K H n p.2 u
  | _, _, _, _, .nil, h, _, _ => by
    cases h
    exact ⟨rfl, fun i p h => by simp at h⟩
  | _, _, _, n, .cons (k := k) (d := d) a t, h, ok, hn => by
    generalize hds : ((kD k, d) :: _ : List (PyData × PyData)) = dd at h
    cases h with
    | nil => cases hds
    | cons a2 t2 =>
      injection hds with e1 e2
      injection e1 with e3 e4
      have e5 := kD_inj e3
      subst e5
      subst e4
      subst e2
      have hn' := hn
      simp only [PyData.depthKv] at hn'
      obtain ⟨h1, h2⟩ := DqKv.eqW (n := n) t t2 ok.2 (by omega)
      refine ⟨by rw [List.length_cons, List.length_cons, h1], fun i p hp => ?_⟩
      cases i with
      | zero =>
        cases hp
        exact ⟨_, rfl, Dq.eqW a a2 ok.1 (show d.depth < n by omega)⟩
      | succ i =>
        obtain ⟨u, hu, hw⟩ := h2 i p (by simpa using hp)
        exact ⟨u, by simpa using hu, hw⟩
theorem DqAll.eqW : ∀ {xs ys : List V} {ds : List PyData} {n : Nat}, DqAll K H xs ds → DqAll K H ys ds → dOkA ds → PyData.depthAll ds < n → Paired (EqW K H n) xs ys
  | _, _, _, _, .nil, h, _, _ => by cases h; exact .nil
  | _, _, _, _, .cons a t, h, ok, hn => by
    cases h with
    | cons a2 t2 =>
      have hn' := hn
      simp only [PyData.depthAll] at hn'
      exact .cons (Dq.eqW a a2 ok.1 (by omega)) (DqAll.eqW t t2 ok.2 (by omega))
end
end
section
variable {X : Cx}
def rEqW (K : PySem.W.Frag) : R2 := fun x y H Q => ∃ d, Dq K H x d ∧ Dq K H y d ∧ dOk d ∧ d.depth ≤ 60 ∧ Q (.bl true) H
theorem op_eqW (hu : X.A.units + 128 < cLine) : OpR X (compareOp .Eq) (rEqW X.K) := by
  intro pins s σ H x y v u Q I rx ry h
  obtain ⟨d, d1, d2, ok, hd, q⟩ := h
  have w := Dq.eqW (n := 61) d1 d2 ok (by omega)
  rcases w with ⟨d', e1, e2, sh⟩ | w
  · refine op_eqD (X := X) (by omega) pins s σ H x y v u Q I rx ry ⟨d', d', e1, e2, sh, sh, ?_⟩
    rw [SeqAt.eqv_refl d' (shaped_depth sh).1]
    exact q
  · exact eqR_run I (A := X.A) (by omega) (eqW_run I 60 X.A.in1 (by show X.A.units + 1 + 60 + 65 < cLine; omega)) w rx ry _ _ ⟨.bl true, H, I, rfl, q⟩
def uEqQ (K : PySem.W.Frag) : R2 := fun x y H Q => uEq K x y H Q ∨ rEqW K x y H Q
theorem uo_eqQ (hu : X.A.units + 128 < cLine) : OpR X (compareOp .Eq) (uEqQ X.K) := (uo_eq (by omega)).or (op_eqW hu)
theorem units128 {k : Nat} {A : Around} (hr : Room k A) : A.units + 128 < cLine := by
  have := hr.un
  have := hr.dp
  omega
end
end RC

namespace RC
open PySem PySem.Spec PyProof.Rows L2
section
variable {κ α : Type} {K : PySem.W.Frag} {ik : κ → Key} {e : α → PyData} {m : List (κ × α)} {Rs : List Res} {H : Hp} {Q : VK} {σ : L2.St} {D : Ends} {p : Addr}
theorem M.gotDD (S : M Rs H) (j : Nat) (hj : Rs[j]? = some (adR K ik e p m)) : Dq K H (.ref p) (eD ik e m) := by
  obtain ⟨kvs, h, t⟩ := S.gotDk j hj
  exact .dct h t.kv
/-! ### a dict of lists of one's own -/
abbrev OE := Str × Addr × List Int
def olsR (es : List OE) : Res := ⟨fun _ l => l = es.map fun q => (q.2.1, HO.lst (q.2.2.map V.int)), fun _ _ _ _ h => h⟩
def oM (es : List OE) : List (Str × List Int) := es.map fun q => (q.1, q.2.2)
def oK (es : List OE) : List (Key × V) := es.map fun q => (iS q.1, V.ref q.2.1)
def adoR (p : Addr) (m : List (Str × List Int)) : Res := exi fun es => prp (oM es = m) (sp2 (pt p (.dK (oK es))) (olsR es))
variable {es : List OE} {om : List (Str × List Int)}
theorem ado_open (S : M (adoR p om :: Rs) H) : ∃ es, oM es = om ∧ M (pt p (.dK (oK es)) :: olsR es :: Rs) H := by
  obtain ⟨es, S⟩ := S.ex
  obtain ⟨h, S⟩ := S.pr
  exact ⟨es, h, S.sp⟩
theorem ado_close (h : oM es = om) (S : M (pt p (.dK (oK es)) :: olsR es :: Rs) H) : M (adoR p om :: Rs) H := M.ex' es (M.pr' h S.sp')
theorem ado_new (S : M (pt p (.dK []) :: Rs) H) : M (adoR p [] :: Rs) H := by
  refine ado_close (es := []) rfl ?_
  obtain ⟨F, L, ⟨l1, l2, rfl, a, b⟩, mm⟩ := S
  exact ⟨F, _, ⟨l1, l2, rfl, a, [], l2, rfl, rfl, b⟩, mm⟩
theorem ols_take {l1 l2 : List OE} {n : Str} {a : Addr} {ns : List Int} (S : M (olsR (l1 ++ (n, a, ns) :: l2) :: Rs) H) : M (pt a (.lst (ns.map V.int)) :: olsR (l1 ++ l2) :: Rs) H := by
  obtain ⟨F, L, ⟨q1, q2, rfl, rfl, b⟩, mm⟩ := S
  refine (⟨F, _, ⟨[(a, _)], _, rfl, rfl, _, q2, rfl, rfl, b⟩, mm.perm ?_⟩ : M (pt a (.lst (ns.map V.int)) :: olsR (l1 ++ l2) :: Rs) H)
  simp only [List.map_append, List.map_cons, List.cons_append, List.append_assoc, List.nil_append]
  exact List.perm_middle
theorem ols_give {l1 l2 : List OE} {n : Str} {a : Addr} {ns : List Int} (S : M (pt a (.lst (ns.map V.int)) :: olsR (l1 ++ l2) :: Rs) H) : M (olsR (l1 ++ (n, a, ns) :: l2) :: Rs) H := by
  obtain ⟨F, L, ⟨q0, q1, rfl, rfl, q2, q3, rfl, rfl, b⟩, mm⟩ := S
  refine (⟨F, _, ⟨_, q3, rfl, rfl, b⟩, mm.perm ?_⟩ : M (olsR (l1 ++ (n, a, ns) :: l2) :: Rs) H)
  simp only [List.map_append, List.map_cons, List.cons_append, List.append_assoc, List.nil_append]
  exact List.perm_middle.symm
theorem oK_val {n : Str} {ns : List Int} : ∀ {es : List OE}, lk (oM es) n = some ns → ∃ l1 l2 a, es = l1 ++ (n, a, ns) :: l2 ∧ valV (oK es) (iS n) = some (.ref a) ∧ lk (oM l1) n = none
  | [], h => by cases h
  | q :: es, h => by
    have h' : lk ((q.1, q.2.2) :: oM es) n = some ns := h
    rw [lk_cons] at h'
    by_cases z : q.1 = n
    · rw [if_pos z] at h'
      cases h'
      subst z
      exact ⟨[], es, q.2.1, rfl, valV_pos rfl, rfl⟩
    · rw [if_neg z] at h'
      obtain ⟨l1, l2, a, rfl, h2, h3⟩ := oK_val h'
      refine ⟨q :: l1, l2, a, rfl, ?_, ?_⟩
      · show valV ((iS q.1, V.ref q.2.1) :: oK _) (iS n) = _
        rw [valV_neg (fun e => z (injS _ _ e))]
        exact h2
      · show lk ((q.1, q.2.2) :: oM l1) n = none
        rw [lk_cons, if_neg z]
        exact h3
/-- the list of a name, by itself -/
theorem ado_at {n : Str} {ns : List Int} (S : M (adoR p om :: Rs) H) (h : lk om n = some ns) : ∃ l1 l2 a, oM (l1 ++ (n, a, ns) :: l2) = om ∧ lk (oM l1) n = none ∧ valV (oK (l1 ++ (n, a, ns) :: l2)) (iS n) = some (.ref a) ∧
    M (pt p (.dK (oK (l1 ++ (n, a, ns) :: l2))) :: pt a (.lst (ns.map V.int)) :: olsR (l1 ++ l2) :: Rs) H := by
  obtain ⟨es, he, S1⟩ := ado_open S
  rw [← he] at h
  obtain ⟨l1, l2, a, e, h2, h3⟩ := oK_val h
  subst e
  exact ⟨l1, l2, a, he, h3, h2, M.sub (.cons 2 rfl (.refl _)) (ols_take (S1.at 1 rfl))⟩
def upK (n : Str) (f : List Int → List Int) : List (Str × List Int) → List (Str × List Int)
  | [] => []
  | q :: r => if q.1 = n then (q.1, f q.2) :: r else q :: upK n f r
theorem upK_mid {n : Str} {f : List Int → List Int} {ns : List Int} {l2 : List (Str × List Int)} : ∀ {l1 : List (Str × List Int)}, lk l1 n = none → upK n f (l1 ++ (n, ns) :: l2) = l1 ++ (n, f ns) :: l2
  | [], _ => by simp [upK]
  | q :: l1, h => by
    rw [lk_cons] at h
    by_cases z : q.1 = n
    · rw [if_pos z] at h
      cases h
    · rw [if_neg z] at h
      show (if q.1 = n then (q.1, f q.2) :: (l1 ++ (n, ns) :: l2) else q :: upK n f (l1 ++ (n, ns) :: l2)) = _
      rw [if_neg z, upK_mid h]
      rfl
theorem ado_back {n : Str} {ns ms : List Int} {l1 l2 : List OE} {a : Addr} {f : List Int → List Int} (h1 : oM (l1 ++ (n, a, ns) :: l2) = om) (h2 : lk (oM l1) n = none) (hf : f ns = ms)
    (S : M (pt p (.dK (oK (l1 ++ (n, a, ns) :: l2))) :: pt a (.lst (ms.map V.int)) :: olsR (l1 ++ l2) :: Rs) H) : M (adoR p (upK n f om) :: Rs) H := by
  refine ado_close (es := l1 ++ (n, a, ms) :: l2) ?_ ?_
  · rw [← h1]
    unfold oM at *
    rw [List.map_append, List.map_cons, List.map_append, List.map_cons, upK_mid h2, hf]
  · have e : oK (l1 ++ (n, a, ms) :: l2) = oK (l1 ++ (n, a, ns) :: l2) := by
      unfold oK
      rw [List.map_append, List.map_cons, List.map_append, List.map_cons]
    rw [e]
    exact M.sub (.cons 1 rfl (.refl _)) (ols_give (S.at 1 rfl |> M.sub (.cons 0 rfl (.cons 1 rfl (.refl _)))))
/-- d[n].append(x) -/
theorem ado_rd (S : M Rs H) (j : Nat) (hj : Rs[j]? = some (adoR p om)) {n : Str} {ns : List Int} (h : lk om n = some ns) : ∃ kvs a, H p = some (.dK kvs) ∧ valV kvs (iS n) = some (.ref a) ∧ SqL K H a (ns.map V.int) ∧
    ∀ (x : Int) (Q' : VK), ns.length < 100000 → (∀ H', M (adoR p (upK n (fun l => l ++ [x]) om) :: Rs.eraseIdx j) H' → Q' .non H') → rAppend (.ref a) [.int x] H Q' := by
  obtain ⟨l1, l2, a, h1, h2, h3, S1⟩ := ado_at (S.at j hj) h
  refine ⟨_, a, S1.got 0 rfl, h3, SqL.of (S1.got 1 rfl), fun x Q' hz k => ?_⟩
  refine v_app S1 1 rfl (by rw [List.length_map]; exact hz) fun H' S2 => k H' (ado_back (ms := ns ++ [x]) h1 h2 rfl ?_)
  rw [List.map_append]
  exact S2
theorem v_ixO {n : Str} {a : Addr} {kvs : List (Key × V)} (h1 : H p = some (.dK kvs)) (h2 : valV kvs (iS n) = some (.ref a)) (k : Q (.ref a) H) : rIxK (.ref p) (.str n) H Q := v_ixKS h1 h2 k
theorem ado_keys (h : oM es = om) : (oK es).map (·.1) = (ks om).map Sum.inr := by
  subst h
  unfold oK oM ks
  rw [List.map_map, List.map_map, List.map_map]
  rfl
theorem v_sortO (S : M Rs H) (j : Nat) (hj : Rs[j]? = some (adoR p om)) (hz : (ks om).length < 64) (k : ∀ q H', M (acR K q ((srtS' (ks om)).map eS) :: Rs) H' → Q (.ref q) H') : rSortDS [.ref p] H Q := by
  obtain ⟨es, he, S1⟩ := ado_open (S.at j hj)
  refine ⟨p, _, ks om, rfl, .inl (S1.got 0 rfl), ado_keys he, hz, fun ys q hp hs hn => ?_⟩
  rw [srtS_eq hp hs]
  exact k q _ (S.new hn).ownS
/-- d[n] = a list of one's own -/
theorem pk_oM {n : Str} {a : Addr} {ns : List Int} {es : List OE} (h : lk (oM es) n = none) : pk (oM es) n ns = oM (es ++ [(n, a, ns)]) ∧ putK (oK es) (iS n) (.ref a) = oK (es ++ [(n, a, ns)]) := by
  have h1 : ((oM es).any fun p => decide (p.1 = n)) = false := by rw [any_lk, h]; rfl
  have h2 : ((oK es).any fun p => decide (p.1 = iS n)) = false := by
    unfold oK oM at *
    rw [List.any_map] at *
    rw [← h1]
    congr 1
    funext q
    exact decide_eq_decide.mpr ⟨fun z => injS _ _ z, fun z => congrArg iS z⟩
  constructor
  · unfold pk
    rw [h1]
    simp [oM]
  · unfold putK
    rw [h2]
    simp [oK]
theorem v_putO {n : Str} {a : Addr} {ns : List Int} {Q : Hp → Prop} (S : M (pt a (.lst (ns.map V.int)) :: adoR p om :: Rs) H) (h : lk om n = none) (hz : om.length < 100000) (k : ∀ H', M (adoR p (pk om n ns) :: Rs) H' → Q H') : uSet (.ref p) (.str n) (.ref a) H Q := by
  obtain ⟨es, he, S1⟩ := ado_open (S.at 1 rfl)
  subst he
  have hp := pk_oM (a := a) (ns := ns) h
  have hl : (oK es).length < 100000 := by
    have : (oK es).length = (oM es).length := by simp [oK, oM]
    omega
  refine v_putS S1 0 rfl hl fun H' S2 => k H' ?_
  refine ado_close (es := es ++ [(n, a, ns)]) hp.1.symm ?_
  rw [← hp.2]
  have S3 : M (pt a (.lst (ns.map V.int)) :: olsR (es ++ []) :: pt p (.dK (putK (oK es) (iS n) (.ref a))) :: Rs) H' := by
    rw [List.append_nil]
    exact M.sub (.cons 2 rfl (.cons 1 rfl (.cons 0 rfl (.refl _)))) S2
  exact M.sub (.cons 1 rfl (.refl _)) (ols_give S3)
theorem map_off {γ : Type} {l : List (Str × γ)} {n : Str} {x : γ} (h : n ∉ ks l) : l.map (fun p => if p.1 = n then (p.1, x) else p) = l := by
  induction l with
  | nil => rfl
  | cons q l ih =>
    have h1 : q.1 ≠ n := fun z => h (by rw [← z]; exact List.mem_cons_self)
    rw [List.map_cons, if_neg h1, ih fun z => h (List.mem_cons_of_mem _ z)]
theorem pk_at {γ : Type} {l1 l2 : List (Str × γ)} {n : Str} {x y : γ} (h1 : n ∉ ks l1) (h2 : n ∉ ks l2) : pk (l1 ++ (n, y) :: l2) n x = l1 ++ (n, x) :: l2 := by
  unfold pk
  rw [if_pos (by simp), List.map_append, List.map_cons, map_off h1, map_off h2, if_pos rfl]
theorem nd_off {γ : Type} {l1 l2 : List (Str × γ)} {n : Str} {y : γ} (nd : (ks (l1 ++ (n, y) :: l2)).Nodup) : n ∉ ks l1 ∧ n ∉ ks l2 := by
  unfold ks at *
  rw [List.map_append, List.map_cons, List.nodup_append] at nd
  obtain ⟨_, h2, h3⟩ := nd
  exact ⟨fun z => h3 n z n List.mem_cons_self rfl, (List.nodup_cons.mp h2).1⟩
theorem oK_at {l1 l2 : List OE} {n : Str} {a b : Addr} {ns ms : List Int} (h1 : n ∉ ks (oM l1)) (h2 : n ∉ ks (oM l2)) : putK (oK (l1 ++ (n, a, ns) :: l2)) (iS n) (.ref b) = oK (l1 ++ (n, b, ms) :: l2) := by
  have off : ∀ {l : List OE}, n ∉ ks (oM l) → (oK l).map (fun kv => if kv.1 = iS n then (kv.1, V.ref b) else kv) = oK l := by
    intro l h
    induction l with
    | nil => rfl
    | cons q l ih =>
      have z1 : q.1 ≠ n := fun z => h (by rw [← z]; exact List.mem_cons_self)
      have z2 : ¬ iS q.1 = iS n := fun z => z1 (injS _ _ z)
      show (if iS q.1 = iS n then _ else _) :: _ = _
      rw [if_neg z2]
      exact congrArg _ (ih fun z => h (List.mem_cons_of_mem _ z))
  unfold putK
  rw [if_pos (by simp [oK])]
  have e1 : oK (l1 ++ (n, a, ns) :: l2) = oK l1 ++ (iS n, .ref a) :: oK l2 := by simp [oK]
  have e2 : oK (l1 ++ (n, b, ms) :: l2) = oK l1 ++ (iS n, .ref b) :: oK l2 := by simp [oK]
  rw [e1, e2, List.map_append, List.map_cons, off h1, off h2, if_pos rfl]
theorem v_putO2 {n : Str} {a : Addr} {ns : List Int} {Q : Hp → Prop} (S : M (pt a (.lst (ns.map V.int)) :: adoR p om :: Rs) H) (nd : (ks om).Nodup) (hz : om.length < 100000) (k : ∀ H', M (adoR p (pk om n ns) :: Rs) H' → Q H') : uSet (.ref p) (.str n) (.ref a) H Q := by
  cases h : lk om n with
  | none => exact v_putO S h hz k
  | some ms =>
    obtain ⟨es, he, S1⟩ := ado_open (S.at 1 rfl)
    subst he
    obtain ⟨l1, l2, b, e, h2, h3⟩ := oK_val h
    subst e
    have e0 : oM (l1 ++ (n, b, ms) :: l2) = oM l1 ++ (n, ms) :: oM l2 := by simp [oM]
    rw [e0] at nd
    obtain ⟨n1, n2⟩ := nd_off nd
    have hl : (oK (l1 ++ (n, b, ms) :: l2)).length < 100000 := by
      have : (oK (l1 ++ (n, b, ms) :: l2)).length = (oM (l1 ++ (n, b, ms) :: l2)).length := by simp [oK, oM]
      omega
    refine v_putS S1 0 rfl hl fun H' S2 => k H' ?_
    refine ado_close (es := l1 ++ (n, a, ns) :: l2) ?_ ?_
    · rw [e0, pk_at n1 n2]
      simp [oM]
    · rw [← oK_at (a := b) (ns := ms) n1 n2]
      have S3 := ols_take (S2.at 1 rfl)
      exact M.sub (.cons 1 rfl (.refl _)) (ols_give (n := n) (M.sub (.cons 3 rfl (.cons 1 rfl (.cons 1 rfl (.tl (.refl _))))) S3))
/-- it is data from now on -/
theorem ado_fix (S : M (adoR p om :: Rs) H) : M (da K (.ref p) (eD iS (eL eI) om) :: Rs) H := by
  obtain ⟨es, he, S1⟩ := ado_open S
  subst he
  have go : ∀ (es2 : List OE) {Rs : List Res}, M (olsR es2 :: Rs) H → M (tkR K iS (eL eI) (oK es2) (oM es2) :: Rs) H := by
    intro es2
    induction es2 with
    | nil =>
      intro Rs S
      obtain ⟨F, L, ⟨l1, l2, rfl, h1, b⟩, mm⟩ := S
      exact ⟨F, l2, ⟨[], l2, rfl, ⟨rfl, .nil⟩, b⟩, mm.perm (by rw [show l1 = [] from h1]; exact .refl _)⟩
    | cons q r ih =>
      intro Rs S
      obtain ⟨n, a, ns⟩ := q
      have S2 := ols_take (l1 := []) S
      have S3 := ih (S2.at 1 rfl |> M.sub (.cons 0 rfl (.cons 0 rfl (.refl _))))
      have S4 := (S3.at 1 rfl).fix
      obtain ⟨F, L, ⟨l1, l2, rfl, ⟨rfl, fp⟩, l3, l4, rfl, ⟨rfl, t⟩, b⟩, mm⟩ := S4
      exact ⟨F, l4, ⟨[], l4, rfl, ⟨rfl, .cons (.lst (.inl (.inl fp)) (dqAll_ints ns)) t⟩, b⟩, mm⟩
  have S2 := go es (S1.at 1 rfl |> M.sub (.cons 0 rfl (.cons 0 rfl (.refl _))))
  exact adR_fix (adR_close (S2.at 1 rfl))
theorem v_lenO (S : M Rs H) (j : Nat) (hj : Rs[j]? = some (adoR p om)) (k : Q (.int (om.length : Nat)) H) : uLen K [.ref p] H Q := by
  obtain ⟨es, he, S1⟩ := ado_open (S.at j hj)
  refine v_lenD (S1.got 0 rfl) ?_
  rw [show (oK es).length = om.length from by rw [← he]; simp [oK, oM]]
  exact k
theorem acR_pt {a : Addr} {ns : List Int} (S : M (acR K a (ns.map eI) :: Rs) H) : M (pt a (.lst (ns.map V.int)) :: Rs) H := by
  obtain ⟨vs, S1⟩ := S.ex
  have S2 := S1.sp
  have h := (S2.gotAA 1 rfl).ints
  subst h
  exact M.sub (.cons 0 rfl (.tl (.refl _))) S2
theorem dc_G {β κ γ : Type} [DecidableEq κ] {e : β → PyData} {sv : β → V} {xs : List β} {v : V} (f : Fl e sv) (AR : Addr → List (κ × γ) → Res) (hnew : ∀ E H, M (pt E (.dK []) :: Rs) H → M (AR E [] :: Rs) H) {tk tv : TE} {tt : TT} {g : TG} {ws : List Nat} {F : β → List (κ × γ) → (Option (κ × γ) → Prop) → Prop} {KK : List (κ × γ) → Prop} (hf : xs.length ≤ 100000 ∧ dcD F xs [] KK) (S : M Rs H) (hrd : ∀ H, M Rs H → Dq K H v (eL e xs))
    (hs : ∀ x (acc : List (κ × γ)) E H (kk : Option (κ × γ) → Prop) (N : Hp → Prop), acc.length < 100000 → M (AR E acc :: Rs) H → F x acc kk →
      (∀ q H, kk (some q) → M (AR E (pk acc q.1 q.2) :: Rs) H → N H) → (∀ H, kk none → M (AR E acc :: Rs) H → N H) → g (sv x) (wipe σ ws) H fun σ2 H2 => wipe σ2 ws = wipe σ ws ∧ tt σ2 H2 fun b H3 =>
      if b = true then tk σ2 H3 fun y H4 => tv σ2 H4 (DcK N E y) else N H3)
    (hd : ∀ E (acc : List (κ × γ)) H, KK acc → M (AR E acc :: Rs) H → Q (.ref E) H) : ItL K (fun J H1 => DcW J g tt tk tv ws σ Q H1) v H := by
  obtain ⟨a, rfl, h⟩ := f.lst (hrd H S)
  refine v_itL h ?_
  obtain ⟨hz, hf⟩ := hf
  intro E hE
  refine ⟨fun i m H => m = xs.length - i ∧ i ≤ xs.length ∧ ∃ acc, dcD F (xs.drop i) acc KK ∧ acc.length ≤ i ∧ M (AR E acc :: Rs) H, ⟨_, rfl, Nat.zero_le _, [], by simpa using hf, Nat.le_refl _, hnew E _ (S.new hE)⟩, ?_⟩
  rintro i m H1 ⟨rfl, hi, acc, hf, ha, S1⟩
  have hq : SqL K H1 a (xs.map sv) := by
    obtain ⟨b, eb, q⟩ := f.lst (hrd H1 S1.tl)
    cases eb
    exact q
  rcases Nat.lt_or_ge i xs.length with hlt | hge
  · right
    rw [List.drop_eq_getElem_cons hlt] at hf
    refine ⟨⟨xs.map sv, sv xs[i], hq, by rw [List.getElem?_map, List.getElem?_eq_getElem hlt]; rfl⟩, fun H => ∃ acc, dcD F (xs.drop (i + 1)) acc KK ∧ acc.length ≤ i + 1 ∧ M (AR E acc :: Rs) H, fun H' h => ⟨xs.length - (i + 1), by omega, rfl, hlt, h⟩, ?_⟩
    rintro x H' ⟨rfl, hx⟩
    have hx' := hx _ hq
    rw [List.getElem?_map, List.getElem?_eq_getElem hlt] at hx'
    cases hx'
    exact hs _ acc E H' _ _ (by omega) S1 hf (fun q H hk S => ⟨_, hk, Nat.le_trans (pk_len _ _ _) (by omega), S⟩) (fun H hk S => ⟨acc, hk, by omega, S⟩)
  · left
    have e0 : i = xs.length := by omega
    subst e0
    rw [List.drop_length] at hf
    exact ⟨⟨xs.map sv, hq, by rw [List.length_map]; exact Nat.le_refl _⟩, hd E acc H1 hf S1⟩
theorem v_dcO {N : Hp → Prop} {n : Str} {a : Addr} {ns : List Int} (S : M (acR K a (ns.map eI) :: adoR p om :: Rs) H) (h : lk om n = none) (hz : om.length < 100000) (k : ∀ H', M (adoR p (pk om n ns) :: Rs) H' → N H') : DcK N p (.str n) (.ref a) H := by
  have q := v_putO (Q := N) (acR_pt S) h hz k
  rcases q with ⟨_, _, _, _, _, hx, _⟩ | ⟨p', H', hp, hd, hq⟩
  · cases hx
  · cases hp
    rcases hd with ⟨kvs, k', h1, h2, h3, rfl⟩ | ⟨kvs, k', b, h1, h2, _⟩
    · exact ⟨kvs, k', h2, h1, h3, hq⟩
    · cases h2
/-! ### dict(pairs) -/
def rDictP (K : PySem.W.Frag) : List V → Hp → VK → Prop := fun xs H Q => ∃ (a : Addr) (ps : List Addr) (kvs : List (Key × V)), xs = [.ref a] ∧ SqL K H a (ps.map V.ref) ∧ Paired (fun p kv => SqT K H p [kV kv.1, kv.2]) ps kvs ∧ ∀ p, H p = none → Q (.ref p) (upd H p (.dK (mergeK [] kvs)))
theorem cr_dictP {X : Cx} (h : X.calm = true) : CallR X (.type "dict") (rDictP X.K) := call_dictP h
def dOf {κ γ : Type} [DecidableEq κ] (ps : List (κ × γ)) : List (κ × γ) := ps.foldl (fun acc q => pk acc q.1 q.2) []
theorem v_dictp {e : α → PyData} {v : V} {ps : List (Str × α)} (S : M Rs H) (j : Nat) (hj : Rs[j]? = some (da K v (eL (eP eS e) ps))) (k : ∀ p H', M (adR K iS e p (dOf ps) :: Rs) H' → Q (.ref p) H') : rDictP K [v] H Q := by
  obtain ⟨F, L, s, mm⟩ := S
  cases EnF.at j hj F L s with
  | @lst a vs _ hs q =>
    have key : ∀ {ps : List (Str × α)} {vs : List V}, DqAll K F vs (ps.map (eP eS e)) → ∃ as kvs, vs = as.map V.ref ∧ Paired (fun p (kv : Key × V) => SqT K F p [kV kv.1, kv.2]) as kvs ∧ TKv K F iS e kvs ps := by
      intro ps
      induction ps with
      | nil =>
        intro vs h
        cases h
        exact ⟨[], [], rfl, .nil, .nil⟩
      | cons q ps ih =>
        intro vs h
        cases h with
        | cons d t =>
          obtain ⟨as, kvs, rfl, h2, h3⟩ := ih t
          cases d with
          | @tup b ws _ hb ht =>
            cases ht with
            | cons d1 t1 =>
              cases t1 with
              | cons d2 t2 =>
                cases t2
                have e1 := d1.strV
                subst e1
                exact ⟨b :: as, (iS q.1, _) :: kvs, rfl, .cons hb h2, .cons d2 h3⟩
    obtain ⟨as, kvs, rfl, h2, h3⟩ := key q
    refine ⟨a, as, kvs, rfl, mm.ex.sqL hs, Paired.mapP h2 fun p kv z => mm.ex.sqT z, fun p hp => k p _ ?_⟩
    have mg : ∀ {ps : List (Str × α)} {kvs acc : List (Key × V)} {ac : List (Str × α)}, TKv K F iS e kvs ps → TKv K F iS e acc ac → TKv K F iS e (mergeK acc kvs) (ps.foldl (fun acc q => pk acc q.1 q.2) ac) := by
      intro ps
      induction ps with
      | nil =>
        intro kvs acc ac h1 h2
        cases h1
        exact h2
      | cons q ps ih =>
        intro kvs acc ac h1 h2
        cases h1 with
        | @cons k' _ _ _ _ d t =>
          have z := ih t (h2.put (k := k') injS d)
          exact z
    have S0 : M (tkR K iS e (mergeK [] kvs) (dOf ps) :: Rs) H := ⟨F, L, ⟨[], L, rfl, ⟨rfl, mg h3 .nil⟩, s⟩, mm⟩
    exact adR_close (S0.new hp)
end
section
variable {α β : Type} {K : PySem.W.Frag} {e : α → PyData} {Rs : List Res} {H : Hp} {Q : VK} {σ : L2.St} {D : Ends} {p : Addr}
/-- a dict that is walked -/
def adL {κ : Type} (K : PySem.W.Frag) (ik : κ → Key) (e : α → PyData) (p : Addr) (od : Obj) (kvs : List (Key × V)) (m : List (κ × α)) : Res := sp2 (pt p (.frz od (.dK kvs))) (tkR K ik e kvs m)
theorem v_ixlS {m : List (Str × α)} {n : Str} {x : α} {od : Obj} {kvs : List (Key × V)} (S : M Rs H) (j : Nat) (hj : Rs[j]? = some (adL K iS e p od kvs m)) (hx : lk m n = some x) (k : ∀ u, M (da K u (e x) :: Rs) H → Q u H) : rIxK (.ref p) (.str n) H Q := by
  have S1 := (S.at j hj).sp
  obtain ⟨F, L, ⟨l1, l2, rfl, a, l3, l4, rfl, ⟨rfl, t⟩, b⟩, mm⟩ := id S1
  obtain ⟨v, h1, h2⟩ := t.some injS hx
  refine ⟨p, v, rfl, .inl ⟨kvs, Sum.inr n, .inr ⟨od, S1.got 0 rfl⟩, rfl, h1.symm⟩, k v ?_⟩
  have b' : Sat F (adL K iS e p od kvs m :: Rs.eraseIdx j) (l1 ++ l4) := ⟨l1, l4, rfl, ⟨l1, [], by simp, a, rfl, t⟩, b⟩
  obtain ⟨L', pp, sat⟩ := b'.perm (perm_at j hj).symm
  exact ⟨F, L', ⟨[], L', rfl, ⟨rfl, h2⟩, sat⟩, mm.perm (by simpa using pp)⟩
theorem tkv_get {κ : Type} {ik : κ → Key} : ∀ {kvs : List (Key × V)} {m : List (κ × α)}, TKv K H ik e kvs m → ∀ {i : Nat} {k : Key} {v : V}, kvs[i]? = some (k, v) → ∃ q, (ks m)[i]? = some q ∧ k = ik q
  | _, _, .nil, i, k, v, h => by simp at h
  | _, _, .cons h t, 0, k, v, g => by
    cases (Option.some.inj (show some _ = some (k, v) from g))
    exact ⟨_, rfl, rfl⟩
  | _, _, .cons h t, i + 1, k, v, g => by
    obtain ⟨q, a, b⟩ := tkv_get t (i := i) (k := k) (v := v) (by simpa using g)
    exact ⟨q, by simpa [ks] using a, b⟩
theorem lc_keysS {te : TE} {tt : TT} {g : TG} {ws : List Nat} {m : List (Str × α)} {F : Str → (Option β → Prop) → Prop} {e' : β → PyData} {KK : List β → Prop} {i : Nat} (hf : (ks m).length ≤ 100000 ∧ lcD F (ks m) [] KK) (S : M Rs H) (j : Nat) (hj : Rs[j]? = some (adR K iS e p m)) (hi : σ[i]? = some (some (.ref p)))
    (hs : ∀ od kvs x (acc : List β) E H (kk : Option β → Prop) (N : Hp → Prop), (acc.map e').length < 100000 → M (acR K E (acc.map e') :: adL K iS e p od kvs m :: Rs.eraseIdx j) H → F x kk →
      (∀ y H, kk (some y) → M (acR K E (acc.map e' ++ [e' y]) :: adL K iS e p od kvs m :: Rs.eraseIdx j) H → N H) → (∀ H, kk none → M (acR K E (acc.map e') :: adL K iS e p od kvs m :: Rs.eraseIdx j) H → N H) → g (.str x) (wipe σ ws) H fun σ2 H2 => wipe σ2 ws = wipe σ ws ∧ tt σ2 H2 fun b H3 =>
      if b = true then te σ2 H3 (LcK N E) else N H3)
    (hd : ∀ E (acc : List β) H, KK acc → M (acR K E (acc.map e') :: adR K iS e p m :: Rs.eraseIdx j) H → Q (.ref E) H) : tLockE (tLc (iKeys (tVar i)) g tt te ws) σ H Q := by
  obtain ⟨hz, hf⟩ := hf
  obtain ⟨kvs, S1⟩ := adR_open S j hj
  refine ⟨p, .dK kvs, S1.got 0 rfl, trivial, fun od => ?_⟩
  have S2 : M (pt p (.frz od (.dK kvs)) :: tkR K iS e kvs m :: Rs.eraseIdx j) (upd H p (.frz od (.dK kvs))) := S1.putAt 0 rfl
  refine ⟨.ref p, hi, p, od, rfl, .inl ⟨kvs, S2.got 0 rfl, ?_⟩⟩
  have S3 : M (adL K iS e p od kvs m :: Rs.eraseIdx j) (upd H p (.frz od (.dK kvs))) := S2.sp'
  have hl : kvs.length = (ks m).length := by
    rw [(S2.gotT 1 rfl).len]
    simp [ks]
  show LcW (Itk p od kvs) g tt te ws σ (fun v H' => H' p = some (.frz od (.dK kvs)) ∧ Q v (upd H' p (.dK kvs))) _
  refine lc_X walk_keys (fun E n H => ∃ acc, lcD F ((ks m).drop n) acc KK ∧ acc.length ≤ n ∧ M (acR K E (acc.map e') :: adL K iS e p od kvs m :: Rs.eraseIdx j) H) (fun E hE => ⟨[], by simpa using hf, Nat.le_refl _, acR_nil (S3.new hE)⟩) (fun E n H _ ⟨acc, _, _, S⟩ => (S.at 1 rfl).sp.got 0 rfl) ?_ ?_
  · rintro E n v H H' hn ⟨acc, hf, ha, S⟩ ⟨rfl, k, u, hk, rfl⟩
    obtain ⟨q, hq, rfl⟩ := tkv_get ((S.at 1 rfl).sp.gotT 1 rfl) hk
    have hn2 : n < (ks m).length := by omega
    rw [List.drop_eq_getElem_cons hn2] at hf
    rw [List.getElem?_eq_getElem hn2] at hq
    cases hq
    refine hs od kvs _ acc E H' _ _ (by rw [List.length_map]; omega) S hf (fun y H hk S => ⟨acc ++ [y], hk, by rw [List.length_append]; simpa using ha, by rw [List.map_append]; exact S⟩) (fun H hk S => ⟨acc, ?_, by omega, S⟩)
    simpa using hk
  · rintro E H ⟨acc, hf, ha, S⟩
    rw [hl, List.drop_length] at hf
    have S4 := (S.at 1 rfl).sp
    refine ⟨S4.got 0 rfl, hd E acc _ hf ?_⟩
    have S5 : M (pt p (.dK kvs) :: tkR K iS e kvs m :: acR K E (acc.map e') :: Rs.eraseIdx j) (upd H p (.dK kvs)) := S4.putAt 0 rfl
    exact M.sub (.cons 1 rfl (.refl _)) (adR_close S5)
end
def jn2 {β γ : Type} (m : (β → γ → Prop) → Prop) (k : β → γ → Prop) : Prop := m k
theorem tt_cutM {β : Type} {tt : TT} {σ : L2.St} {H : Hp} {P : Bool → Hp → Prop} {m : (Bool → β → Prop) → Prop} {KK : Bool → β → Prop} (hf : jn2 m KK) (Inv : β → Hp → Prop) (h1 : ∀ (kk : Bool → β → Prop) (P' : Bool → Hp → Prop), (∀ c s H, kk c s → Inv s H → P' c H) → m kk → tt σ H P')
    (h2 : ∀ c s H, KK c s → Inv s H → P c H) : tt σ H P := h1 KK P h2 hf
theorem te_cutM {β : Type} {te : TE} {σ : L2.St} {H : Hp} {Q : VK} {m : (Bool → β → Prop) → Prop} {KK : Bool → β → Prop} (hf : jn2 m KK) (Inv : β → Hp → Prop) (h1 : ∀ (kk : Bool → β → Prop) (P' : VK), (∀ c s H, kk c s → Inv s H → P' (.bl c) H) → m kk → te σ H P')
    (h2 : ∀ c s H, KK c s → Inv s H → Q (.bl c) H) : te σ H Q := h1 KK Q h2 hf
theorem Dq.by_ {K : PySem.W.Frag} {H : Hp} {v : V} {d e : PyData} (h : d = e) (q : Dq K H v e) : Dq K H v d := h ▸ q
theorem v_lenLI {K : PySem.W.Frag} {H : Hp} {Q : VK} {a : Addr} {ns : List Int} (h : SqL K H a (ns.map V.int)) (k : Q (.int (ns.length : Nat)) H) : uLen K [.ref a] H Q := v_lenL h (by rw [List.length_map]; exact k)
/-! ### alike -/
structure AlkOk (d : PyData) : Prop where
  ok : dOk d
  sh : d.showable = true
  dp : d.depth ≤ 60
  ln : d.shown.length ≤ sizeLine
/-- data of small size, dicts too -/
structure ShQ (dp bk : Nat) (d : PyData) : Prop where
  ok : dOk d
  sh : d.showable = true
  lf : d.leavesShort 400 = true
  dp : d.depth ≤ dp
  bk : d.bulk ≤ bk
theorem ShQ.alk {dp bk : Nat} {d : PyData} (h : ShQ dp bk d) (h1 : dp ≤ 60) (h2 : bk ≤ 40000) : AlkOk d := by
  refine ⟨h.ok, h.sh, Nat.le_trans h.dp h1, ?_⟩
  have z := PyData.shown_le_bulk 400 (by decide) d h.lf
  have b := h.bk
  rw [sizeLine_eq]
  omega
theorem ShQ.up {dp bk dp' bk' : Nat} {d : PyData} (h : ShQ dp bk d) (h1 : dp ≤ dp') (h2 : bk ≤ bk') : ShQ dp' bk' d := ⟨h.ok, h.sh, h.lf, Nat.le_trans h.dp h1, Nat.le_trans h.bk h2⟩
theorem log2_lt {n : Int} (h : n.natAbs < 2 ^ 1000) : n.natAbs.log2 < 1920 := by
  rcases Nat.eq_zero_or_pos n.natAbs with e | e
  · rw [e]
    decide
  · have := (Nat.log2_lt (by omega)).mpr h
    omega
theorem ShQ.int {n : Int} (h : n.natAbs < 2 ^ 1000) : ShQ 0 0 (.int n) := by
  have l := log2_lt h
  refine ⟨trivial, by simpa [PyData.showable] using l, ?_, by simp [PyData.depth], by simp [PyData.bulk]⟩
  have q : (2 : Nat) ^ 1000 < 10 ^ 310 := by decide +kernel
  have z : (PySem.Str.ofString (toString n)).length ≤ 311 := by
    have := int_text_length_le10 (a := n) (k := 310) (by decide) (by omega)
    rw [PySem.ofString_length]
    exact this
  simp only [PyData.leavesShort, PyData.shown]
  exact decide_eq_true (Nat.le_trans z (show 311 ≤ 400 by decide))
theorem ShQ.all {dp bk : Nat} : ∀ {ds : List PyData}, (∀ d ∈ ds, ShQ dp bk d) → dOkA ds ∧ PyData.showableAll ds = true ∧ PyData.leavesShortAll 400 ds = true ∧ PyData.depthAll ds ≤ dp ∧ PyData.bulkAll ds ≤ ds.length * (bk + 1)
  | [], _ => ⟨trivial, rfl, rfl, Nat.zero_le _, by simp [PyData.bulkAll]⟩
  | d :: ds, h => by
    have a := h d List.mem_cons_self
    obtain ⟨h0, h1, h2, h3, h4⟩ := ShQ.all fun x hx => h x (List.mem_cons_of_mem _ hx)
    refine ⟨⟨a.ok, h0⟩, by simp [PyData.showableAll, a.sh, h1], by simp [PyData.leavesShortAll, a.lf, h2], ?_, ?_⟩
    · simp only [PyData.depthAll]
      have := a.dp
      omega
    · simp only [PyData.bulkAll, List.length_cons]
      have := a.bk
      rw [Nat.add_mul]
      omega
theorem ShQ.list {dp bk : Nat} {ds : List PyData} (h : ∀ d ∈ ds, ShQ dp bk d) : ShQ (dp + 1) (ds.length * (bk + 1)) (.list ds) := by
  obtain ⟨h0, h1, h2, h3, h4⟩ := ShQ.all h
  refine ⟨h0, by simpa [PyData.showable] using h1, by simpa [PyData.leavesShort] using h2, ?_, by simpa [PyData.bulk] using h4⟩
  simp only [PyData.depth]
  omega
end RC

namespace RC
open PySem PySem.Spec PyProof.Rows L2
theorem walk_S {l : PySem.W.OpenLaw} {n k : Nat} {q : Program} {loose : List Str} {XP : (Str → Option Value) → Heap → Prop} {YP : World → Heap → Prop} {d : DefRec} {CX : World → CXT} {x : Str}
    (hi : importsNone q = true) (hn : l.most = some n) (hn2 : n ≤ sizeLine) (hdf : d.params.defaults = []) (hr : Room k callerA)
    (F : ∀ (w : World) (mg : Str → Option Value) (fa : Addr) (h : Heap), YP w h → h.Ns mainGlobals mg → mg d.name = some (.ref fa) →
      ∃ (K : PySem.W.Frag) (fd : FuncData) (sp : Sp), K.In h ∧ (∀ (s : Shared) (u : Value), BindsTo s fd ⟨[u], []⟩ [(x, u)]) ∧
        (∀ (H : Hp) (a : Addr) (ns : List Int), ns.length ≤ n → SqL K H a (ns.map V.int) → sp [.ref a] H (fun v _ => v = .bl true) fun _ _ _ => False) ∧
        ∀ base : Heap, K.In base → base.Ns mainGlobals mg → NDX base → FnX true l.prog w K mg base (CX w) k fa fd [x] sp)
    (hCX : ∀ (w : World) (H : Hp) (s : Shared) (e : Value) (s' : Shared), CX w [] H s (fun _ _ _ => False) e s' → False) :
    PySem.W.WalkO q loose XP YP l.row.toRowW d [] (fun f vs => PySem.call f vs) := by
  refine Att.attach_call hn hdf ?_
  intro w s0 s1 mg mb fa o pm cd doc a vs ns G Y ho hd hcd hmg hobj hints hlen hgen
  obtain ⟨K, fd, sp, KX, hb, hsp, hF⟩ := F w mg fa _ Y G.T.g hmg
  exact law_callN KX G.T.g G.T.b G.T.builtins G.T.nolimit (fun h' kp => ⟨nd_keep G.T.nodigits kp, by
      obtain ⟨mm, ⟨o, es, ep, e, d, _⟩, _⟩ := (G.T.seer hi).mods
      exact ⟨o, es, ep, kp _ _ _ _ e d, d⟩⟩) hgen hobj hints
    (Nat.le_trans hlen hn2) hr hF hb (fun H hS => hsp H a ns hlen hS) (fun H e s' => hCX w H s1 e s')
end RC

namespace RC
open PySem PySem.Spec PyProof.Rows L2
/-! ### things of any kind, tuples, comprehensions that change things, exceptions -/
def lcS {α β γ : Type} (f : α → γ → (Option β → γ → Prop) → Prop) : List α → γ → List β → (List β → γ → Prop) → Prop
  | [], s, acc, k => k acc s
  | x :: xs, s, acc, k => f x s fun y s' => lcS f xs s' (acc ++ y.toList) k
def isNo : PyData → Bool
  | .none => true
  | _ => false
def anyAt : PyData → Int → Option PyData
  | .list ds, i => atI ds i
  | .tuple ds, i => atI ds i
  | _, _ => none
section
variable {α β γ : Type} {K : PySem.W.Frag} {Rs : List Res} {H : Hp} {σ : L2.St} {Q : VK} {D : Ends} {v w : V} {d d' : PyData} {p : Addr} {e : α → PyData} {xs ys : List α}
theorem M.cstA (S : M Rs H) (i : Nat) (h0 : Rs[i]? = some (da K v d)) (h : d = d') : M (da K v d' :: Rs) H := h ▸ M.addA S (EnF.at i h0)
theorem v_ixa {i : Int} {x : PyData} (S : M Rs H) (j : Nat) (hj : Rs[j]? = some (da K v d)) (hx : anyAt d i = some x) (k : ∀ u, M (da K u x :: Rs) H → Q u H) : uIx K v (.int i) H Q := by
  cases d with
  | list ds => exact v_ixq S (.inl (EnF.at j hj)) hx k
  | tuple ds => exact v_ixq S (.inr (EnF.at j hj)) hx k
  | _ => cases hx
theorem DqAll.fixT {F : Hp} {L : List Cell} {vs : List V} {ds : List PyData} (s : Sat F Rs L) (m : MemC F L H) (q : DqAll K F vs ds) (k : ∀ p H', M (da K (.ref p) (.tuple ds) :: Rs) H' → Q (.ref p) H') : ∀ p, H p = none → Q (.ref p) (upd H p (.tup vs)) := by
  intro p hp
  have S1 : M (daA K vs ds :: Rs) H := ⟨F, L, ⟨[], L, rfl, ⟨rfl, q⟩, s⟩, m⟩
  refine k p _ ?_
  have S2 : M (pt p (.tup vs) :: daA K vs ds :: Rs) (upd H p (.tup vs)) := S1.new hp
  have S3 : M (da K (.ref p) (.tuple ds) :: daA K vs ds :: Rs) (upd H p (.tup vs)) := S2.fixG (R := da K (.ref p) (.tuple ds)) (φ := fun F => DqAll K F vs ds) (fun F L ⟨_, _, _, a, _⟩ => a.2) fun F q e => ⟨rfl, .tup (.inl (.inl e)) q⟩
  exact M.sub (.cons 0 rfl (.tl (.refl _))) S3
theorem v_slA {lo hi : Option Int} (S : M Rs H) (j : Nat) (hj : Rs[j]? = some (da K v (eV e xs))) (k : ∀ u H', M (da K u (eV e (cutL xs lo hi)) :: Rs) H' → Q u H') : rSlA K v lo hi H Q := by
  obtain ⟨F, L, s, m⟩ := id S
  have d0 := EnF.at j hj F L s
  cases d0 with
  | tup a q =>
    rename_i vs
    refine ⟨_, _, rfl, m.ex.sqT a, fun hw => ?_, fun _ => ?_⟩
    · have hl : vs.length = xs.length := by have := q.len; rwa [List.length_map] at this
      have e1 : cutL xs lo hi = xs := by
        unfold cutL
        rw [← hl, hw.1, hw.2]
        simp [hl]
      refine k _ H ?_
      rw [e1]
      exact S.addA (EnF.at j hj)
    · refine DqAll.fixT s m (q.cut lo hi) fun p H' S' => k _ H' ?_
      unfold eV
      rw [← cutL_map]
      exact S'
theorem v_catA (S : M Rs H) (i j : Nat) (hi : Rs[i]? = some (da K v (eV e xs))) (hj : Rs[j]? = some (da K w (eV e ys))) (hz : xs.length + ys.length ≤ 100000) (k : ∀ u H', M (da K u (eV e (xs ++ ys)) :: Rs) H' → Q u H') : rCatA K v w H Q := by
  obtain ⟨F, L, s, m⟩ := id S
  have d0 := EnF.at i hi F L s
  have d1 := EnF.at j hj F L s
  cases d0 with
  | tup a q =>
    cases d1 with
    | tup a' q' =>
      rename_i vs _ ws
      have l1 := q.len
      have l2 := q'.len
      rw [List.length_map] at l1 l2
      refine ⟨_, _, _, _, rfl, rfl, m.ex.sqT a, m.ex.sqT a', Nat.le_trans (by rw [l1, l2]; exact hz) (by decide), fun z => ?_, fun _ z => ?_, fun _ _ => ?_⟩
      · subst z
        have : xs = [] := List.length_eq_zero_iff.mp l1.symm
        subst this
        exact k _ H (S.addA (EnF.at j hj))
      · subst z
        have : ys = [] := List.length_eq_zero_iff.mp l2.symm
        subst this
        refine k _ H ?_
        rw [List.append_nil]
        exact S.addA (EnF.at i hi)
      · refine DqAll.fixT s m (q.app q') fun p H' S' => k _ H' ?_
        unfold eV
        rw [List.map_append]
        exact S'
theorem isNo_eq (h : Dq K H v d) : isNo d = decide (v = .non) := by
  cases h <;> simp [isNo]
theorem v_isNa (h : Dq K H v d) (k : Q (.bl (isNo d)) H) : rIsN v .non H Q := ⟨rfl, by rw [← isNo_eq h]; exact k⟩
theorem v_notNa (h : Dq K H v d) (k : Q (.bl (!isNo d)) H) : rNotN v .non H Q := ⟨rfl, by rw [← isNo_eq h]; exact k⟩
theorem v_all {bs : List Bool} (h : Dq K H v (eL eB bs)) (k : Q (.bl (bs.all id)) H) : rAll K [v] H Q := by
  obtain ⟨a, rfl, hs⟩ := flB.lst h
  exact ⟨a, bs, rfl, hs, k⟩
/-- pop of one's own dict -/
theorem v_dpopA {κ : Type} {ik : κ → Key} {tb : TE} {m : List (κ × α)} (S : M Rs H) (j : Nat) (hj : Rs[j]? = some (adR K ik e p m)) (k : tb σ H (PopV p Q)) : Pop1K tb σ Q (.ref p) H := by
  obtain ⟨kvs, h, t⟩ := S.gotDk j hj
  exact v_dpop h k
theorem popd_core {κ : Type} [DecidableEq κ] {ik : κ → Key} {m : List (κ × α)} {k : κ} {x : α} (inj : ∀ a b, ik a = ik b → a = b) (S : M Rs H) (j : Nat) (hj : Rs[j]? = some (adR K ik e p m)) (hx : lk m k = some x) :
    ∃ kvs u, H p = some (.dK kvs) ∧ valV kvs (ik k) = some u ∧ M (da K u (e x) :: adR K ik e p (dk m k) :: Rs.eraseIdx j) (upd H p (.dK (dropK kvs (ik k)))) := by
  obtain ⟨kvs, S1⟩ := adR_open S j hj
  have S2 := S1.putAt (o' := .dK (dropK kvs (ik k))) 0 rfl
  obtain ⟨F, L, ⟨l1, l2, rfl, a, l3, l4, rfl, ⟨rfl, t⟩, b⟩, mm⟩ := id S2
  obtain ⟨u, h1, h2⟩ := t.some inj hx
  exact ⟨kvs, u, S1.got 0 rfl, h1, F, _, ⟨[], _, rfl, ⟨rfl, h2⟩, l1, l4, by simp, ⟨_, l1, [], by simp, a, rfl, t.drop inj⟩, b⟩, mm⟩
theorem v_popAS {m : List (Str × α)} {n : Str} {x : α} (S : M Rs H) (j : Nat) (hj : Rs[j]? = some (adR K iS e p m)) (hx : lk m n = some x) (k : ∀ u H', M (da K u (e x) :: adR K iS e p (dk m n) :: Rs.eraseIdx j) H' → Q u H') : PopV p Q (.str n) H := by
  obtain ⟨kvs, u, h1, h2, S2⟩ := popd_core injS S j hj hx
  exact ⟨kvs, Sum.inr n, u, h1, rfl, h2, k u _ S2⟩
theorem v_popAI {m : List (Int × α)} {n : Int} {x : α} (S : M Rs H) (j : Nat) (hj : Rs[j]? = some (adR K iI e p m)) (hx : lk m n = some x) (k : ∀ u H', M (da K u (e x) :: adR K iI e p (dk m n) :: Rs.eraseIdx j) H' → Q u H') : PopV p Q (.int n) H := by
  obtain ⟨kvs, u, h1, h2, S2⟩ := popd_core injI S j hj hx
  exact ⟨kvs, Sum.inl n, u, h1, rfl, h2, k u _ S2⟩
/-- a comprehension over a range that changes things -/
theorem lc_rngS {te : TE} {tt : TT} {g : TG} {ws : List Nat} {F : Int → γ → (Option β → γ → Prop) → Prop} {e' : β → PyData} {n : Int} {s0 : γ} {KK : List β → γ → Prop} (RsF : γ → List Res) (hf : (rng n).length ≤ 100000 ∧ lcS F (rng n) s0 [] KK) (S : M (RsF s0) H)
    (hs : ∀ x (s : γ) (acc : List β) E H (kk : Option β → γ → Prop) (N : Hp → Prop), (acc.map e').length < 100000 → M (acR K E (acc.map e') :: RsF s) H → F x s kk →
      (∀ y s' H, kk (some y) s' → M (acR K E (acc.map e' ++ [e' y]) :: RsF s') H → N H) → (∀ s' H, kk none s' → M (acR K E (acc.map e') :: RsF s') H → N H) → g (.int x) (wipe σ ws) H fun σ2 H2 => wipe σ2 ws = wipe σ ws ∧ tt σ2 H2 fun b H3 =>
      if b = true then te σ2 H3 (LcK N E) else N H3)
    (hd : ∀ E (acc : List β) s H, KK acc s → M (acR K E (acc.map e') :: RsF s) H → Q (.ref E) H) : LcW (Itr 0 n.toNat) g tt te ws σ Q H := by
  obtain ⟨hz, hf⟩ := hf
  rw [rng_len] at hz
  refine lc_X walk_range (fun E i H => ∃ acc s, lcS F ((rng n).drop i) s acc KK ∧ acc.length ≤ i ∧ M (acR K E (acc.map e') :: RsF s) H) (fun E hE => ⟨[], s0, by simpa using hf, Nat.le_refl _, acR_nil (S.new hE)⟩) (fun E i H _ _ => trivial) ?_ ?_
  · rintro E i v H H' hi ⟨acc, s, hf, ha, S⟩ ⟨rfl, rfl⟩
    have hi2 : i < (rng n).length := by rw [rng_len]; exact hi
    rw [List.drop_eq_getElem_cons hi2] at hf
    have e : (rng n)[i] = (0 : Int) + (i : Nat) := Option.some.inj ((List.getElem?_eq_getElem hi2).symm.trans (rng_get hi))
    rw [e] at hf
    refine hs _ s acc E H' _ _ (by rw [List.length_map]; omega) S hf (fun y s' H hk S => ⟨acc ++ [y], s', hk, by rw [List.length_append]; simpa using ha, by rw [List.map_append]; exact S⟩) (fun s' H hk S => ⟨acc, s', ?_, by omega, S⟩)
    simpa using hk
  · rintro E H ⟨acc, s, hf, ha, S⟩
    rw [← rng_len, List.drop_length] at hf
    exact hd E acc s H hf S
/-! in a tuple, in a list of texts -/
theorem inV_str {s : Str} : ∀ xs : List Str, inV (.str s) (xs.map V.str) = xs.any fun y => decide (y = s)
  | [] => rfl
  | x :: xs => by
    have h := inV_str (s := s) xs
    unfold inV at h ⊢
    rw [List.map_cons, List.any_cons, List.any_cons, h]
    congr 1
theorem flat_strs : ∀ xs : List Str, (xs.map V.str).all flatV = true
  | [] => rfl
  | x :: xs => by rw [List.map_cons, List.all_cons, flat_strs xs]; rfl
theorem v_inT {s : Str} {xs : List Str} (h : SqL K H p (xs.map V.str) ∨ SqT K H p (xs.map V.str)) (k : Q (.bl (xs.any fun y => decide (y = s))) H) : uIn K (.str s) (.ref p) H Q :=
  .inl ⟨p, _, rfl, h, rfl, flat_strs xs, by rw [inV_str]; exact k⟩
theorem v_ninT {s : Str} {xs : List Str} (h : SqL K H p (xs.map V.str) ∨ SqT K H p (xs.map V.str)) (k : Q (.bl (!(xs.any fun y => decide (y = s)))) H) : uNotIn K (.str s) (.ref p) H Q :=
  .inl ⟨p, _, rfl, h, rfl, flat_strs xs, by rw [inV_str]; exact k⟩
theorem Dq.sqTS {xs : List Str} (h : Dq K H v (eV eS xs)) : ∃ a, v = .ref a ∧ SqT K H a (xs.map V.str) := by
  cases h with
  | tup a q => exact ⟨_, rfl, (flS.all q) ▸ a⟩
theorem v_inV {s : Str} {xs : List Str} (h : Dq K H v (eV eS xs)) (k : Q (.bl (xs.any fun y => decide (y = s))) H) : uIn K (.str s) v H Q := by
  obtain ⟨a, rfl, hs⟩ := h.sqTS
  exact v_inT (.inr hs) k
theorem v_ninV {s : Str} {xs : List Str} (h : Dq K H v (eV eS xs)) (k : Q (.bl (!(xs.any fun y => decide (y = s)))) H) : uNotIn K (.str s) v H Q := by
  obtain ⟨a, rfl, hs⟩ := h.sqTS
  exact v_ninT (.inr hs) k
theorem eV_any (e : α → PyData) (xs : List α) : eV e xs = eV eA (xs.map e) := by
  unfold eV
  rw [List.map_map]
  rfl
theorem kit_cons {cls c : Value} {cs : List Value} {b d : Bool} (h : PySem.W.kitOne K cls c = some b) (h2 : PySem.W.kitAny K cls cs = some d) : PySem.W.kitAny K cls (c :: cs) = some (b || d) := by
  cases b <;> simp [PySem.W.kitAny, h, h2]
theorem v_hdY {W : WX} {cs : List Value} {sl : Option Nat} {ts : Addr → Value → Option Addr → TS} {r : List Hd} {cls : Value} {dd : Option Addr} (h : PySem.W.exmAny K cls cs = some true) (k : ∀ a, ts a cls dd (Hd.ends D sl) (Hd.put σ a sl) H) : wTry K W D (⟨cs, sl, ts⟩ :: r) cls dd σ H :=
  ⟨true, h, fun _ a _ => k a, fun z => nomatch z⟩
theorem v_hdN {W : WX} {cs : List Value} {sl : Option Nat} {ts : Addr → Value → Option Addr → TS} {r : List Hd} {cls : Value} {dd : Option Addr} (h : PySem.W.exmAny K cls cs = some false) (k : wTry K W D r cls dd σ H) : wTry K W D (⟨cs, sl, ts⟩ :: r) cls dd σ H :=
  ⟨false, h, (fun z => nomatch z), fun _ => k⟩
theorem g_xgv {a C dd : Addr} {fs : List (Str × V)} {n : Str} {i : Nat} (hv : σ[i]? = some (some (.ref a))) (c : ExcC K C) (hn : PySem.W.findIn K (.ref C) n = some none) (h : H dd = some (.xd fs)) (l : fs.lookup n = some v) (k : Q v H) : tXg K a (.ref C) (some dd) n (tVar i) σ H Q :=
  g_xg (g_var hv (v_xg c hn h l k))
theorem v_isXs {a : Addr} {C dd tp : Addr} {fs : List (Str × V)} {cs : List V} {us : List Value} {b : Bool} (c : ExcC K C) (h : H dd = some (.xd fs)) (ht : H tp = some (.tup cs)) (pr : Paired ClsV cs us) (e : PySem.W.kitAny K (.ref C) us = some b) (k : Q (.bl b) H) : uIsX K a (.ref C) (some dd) [.ref a, .ref tp] H Q :=
  .inr ⟨tp, cs, us, b, rfl, ⟨C, rfl, c, .inr ⟨dd, fs, rfl, h⟩⟩, ht, pr, e, k⟩
end
end RC

namespace RC
open PySem PySem.Spec PyProof.Rows L2
local macro_rules | `(tactic| walk_at "S") => `(tactic| assumption)
local macro_rules | `(tactic| walk_at "hp") => `(tactic| first
  | assumption
  | exact M.got (by assumption) 0 rfl | exact M.got (by assumption) 1 rfl | exact M.got (by assumption) 2 rfl | exact M.got (by assumption) 3 rfl | exact M.got (by assumption) 4 rfl
  | exact M.got (by assumption) 5 rfl | exact M.got (by assumption) 6 rfl | exact M.got (by assumption) 7 rfl | exact M.got (by assumption) 8 rfl
  | exact M.gotF (by assumption) 0 rfl | exact M.gotF (by assumption) 1 rfl | exact M.gotF (by assumption) 2 rfl | exact M.gotF (by assumption) 3 rfl | exact M.gotF (by assumption) 4 rfl
  | exact M.gotF (by assumption) 5 rfl | exact M.gotF (by assumption) 6 rfl | exact M.gotF (by assumption) 7 rfl | exact M.gotF (by assumption) 8 rfl)
local macro_rules | `(tactic| walk_at "sl") => `(tactic| first
  | assumption
  | exact SqL.of (by walk_at "hp")
  | exact M.gotR (by assumption) 0 rfl | exact M.gotR (by assumption) 1 rfl | exact M.gotR (by assumption) 2 rfl | exact M.gotR (by assumption) 3 rfl)
local macro_rules | `(tactic| walk_at "mul") => `(tactic| first
  | exact Or.inl (Or.inr ⟨by decide, by decide⟩) | exact Or.inl (Or.inl ⟨by decide, by decide⟩) | exact Or.inl (Or.inr ⟨by omega, by omega⟩) | exact Or.inl (Or.inl ⟨by omega, by omega⟩))
local macro_rules | `(tactic| walk_at "sq") => `(tactic| first | assumption | exact SqT.of (by walk_at "hp"))
local macro_rules | `(tactic| walk_at "sts") => `(tactic| first
  | with_reducible refine g_asg ?_
  | with_reducible refine g_asgX ?_
  | with_reducible refine g_drop ?_
  | with_reducible refine g_ret ?_
  | with_reducible refine g_retN ?_
  | with_reducible refine g_if ?_
  | with_reducible refine g_next ?_
  | with_reducible refine g_bk ?_
  | with_reducible refine g_ct ?_
  | with_reducible refine g_augS ?_
  | with_reducible refine g_for ?_
  | with_reducible refine g_while ?_
  | with_reducible refine g_par ?_
  | ((with_reducible refine' g_aug ?hh ?kk); (case hh => exact rfl)))
local macro_rules | `(tactic| walk_at "ev1") => `(tactic| first
  | with_reducible refine g_rt ?_
  | with_reducible refine g_lc ?_
  | with_reducible refine g_iList ?_
  | with_reducible refine g_iRng1 ?_
  | with_reducible refine g_iRev ?_
  | with_reducible refine g_yes ?_
  | ((with_reducible refine' g_wipe ?hh ?kk); (case hh => exact rfl))
  | with_reducible refine g_name ?_
  | ((with_reducible refine' g_var ?hh ?kk); (case hh => exact rfl))
  | with_reducible refine g_c ?_
  | with_reducible refine g_op ?_
  | with_reducible refine g_un ?_
  | with_reducible refine g_nil ?_
  | with_reducible refine g_cons ?_
  | with_reducible refine g_cb ?_
  | with_reducible refine g_call ?_
  | with_reducible refine g_lst ?_
  | with_reducible refine g_tup ?_
  | with_reducible refine g_test ?_
  | with_reducible refine g_B ?_
  | with_reducible refine g_bl ?_
  | with_reducible refine g_int ?_
  | with_reducible refine g_and ?_
  | with_reducible refine g_or ?_
  | with_reducible refine g_not ?_
  | with_reducible refine g_andV ?_
  | with_reducible refine g_orV ?_
  | with_reducible refine g_notV ?_
  | with_reducible refine g_ifE ?_
  | with_reducible refine g_chain ?_
  | with_reducible refine g_sub ?_
  | with_reducible refine g_sl ?_
  | with_reducible refine g_noPart ?_
  | with_reducible refine g_part ?_
  | with_reducible refine g_rev ?_
  | with_reducible refine g_bm ?_
  | with_reducible refine g_bm0 ?_
  | with_reducible refine v_add ?_
  | with_reducible refine v_sub ?_
  | with_reducible refine v_iadd ?_
  | with_reducible refine v_isub ?_
  | with_reducible refine v_lt ?_
  | with_reducible refine v_le ?_
  | with_reducible refine v_gt ?_
  | with_reducible refine v_ge ?_
  | with_reducible refine v_eqI ?_
  | with_reducible refine v_neI ?_
  | with_reducible refine v_eqS ?_
  | with_reducible refine v_eqB ?_
  | with_reducible refine v_neB ?_
  | ((with_reducible refine' v_mod ?hh ?kk); (case hh => first | decide | omega))
  | ((with_reducible refine' v_mul ?hh ?kk); (case hh => walk_at "mul"))
  | ((with_reducible refine' v_imul ?hh ?kk); (case hh => first | exact Or.inr ⟨by decide, by decide⟩ | exact Or.inl ⟨by decide, by decide⟩ | exact Or.inr ⟨by omega, by omega⟩ | exact Or.inl ⟨by omega, by omega⟩))
  | ((with_reducible refine' v_div ?hh ?kk); (case hh => first | decide | exact ⟨by omega, by omega⟩))
  | ((with_reducible refine' v_idiv ?hh ?kk); (case hh => first | exact ⟨by decide, by decide⟩ | exact ⟨by omega, by omega⟩))
  | ((with_reducible refine' v_ixL ?hs ?hh ?kk); (case hs => walk_at "sl"); (case hh => exact rfl))
  | ((with_reducible refine' v_ixT ?hs ?hh ?kk); (case hs => walk_at "sq"); (case hh => exact rfl))
  | ((with_reducible refine' v_get ?hs ?h0 ?hh ?kk); (case hs => walk_at "sl"); (case h0 => decide); (case hh => exact rfl))
  | ((with_reducible refine' v_lenL ?hs ?kk); (case hs => walk_at "sl"))
  | ((with_reducible refine' v_pow ?hh ?kk); (case hh => decide +kernel))
  | with_reducible refine v_abs ?_
  | with_reducible refine v_neg ?_
  | with_reducible refine v_isN ?_
  | with_reducible refine v_notN ?_
  | with_reducible refine v_two ?_
  | with_reducible refine g_callN ?_
  | ((with_reducible refine' v_lens ?h1 ?h2 ?kk); (case h1 => exact rfl); (case h2 => exact rfl))
  | ((with_reducible refine' g_gtup ?h1 ?h2 ?kk); (case h1 => walk_at "sq"); (case h2 => exact rfl))
  | with_reducible refine g_gcons ?_
  | with_reducible refine g_gnil ?_
  | with_reducible refine v_ifNT ?_
  | with_reducible refine v_ifNF ?_
  | with_reducible refine v_ifT ?_
  | with_reducible refine v_ifF ?_)
local macro_rules | `(tactic| walk_at "ev") => `(tactic| repeat walk_at "ev1")
local macro_rules | `(tactic| walk_at "nx") => `(tactic| repeat with_reducible refine g_nx ?_)
local macro_rules | `(tactic| walk_at "st") => `(tactic| ((repeat first | with_reducible refine g_nx ?_ | with_reducible refine g_seq ?_); walk_at "sts"; walk_at "ev"))
local macro_rules | `(tactic| walk_at "go1") => `(tactic| first | with_reducible refine g_nx ?_ | with_reducible refine g_seq ?_ | walk_at "sts" | walk_at "ev1")
local macro_rules | `(tactic| walk_at "go") => `(tactic| repeat walk_at "go1")
local macro_rules | `(tactic| walk_at "sub1") => `(tactic| first
  | exact Sub.refl _ | exact Sub.nil _
  | refine Sub.cons 0 rfl ?_ | refine Sub.cons 1 rfl ?_ | refine Sub.cons 2 rfl ?_ | refine Sub.cons 3 rfl ?_ | refine Sub.cons 4 rfl ?_ | refine Sub.cons 5 rfl ?_ | refine Sub.cons 6 rfl ?_ | refine Sub.cons 7 rfl ?_
  | refine Sub.cons 8 rfl ?_ | refine Sub.cons 9 rfl ?_ | refine Sub.cons 10 rfl ?_ | refine Sub.cons 11 rfl ?_ | refine Sub.cons 12 rfl ?_ | refine Sub.cons 13 rfl ?_ | refine Sub.cons 14 rfl ?_ | refine Sub.cons 15 rfl ?_ | refine Sub.tl ?_)
local macro_rules | `(tactic| walk_at "sub") => `(tactic| (refine M.sub ?_ (by assumption); repeat walk_at "sub1"))
local macro_rules | `(tactic| walk_at "sts") => `(tactic| first
  | with_reducible refine g_sfld ?_
  | with_reducible refine g_rz ?_
  | with_reducible refine g_try ?_)
local macro_rules | `(tactic| walk_at "ev1") => `(tactic| first
  | with_reducible refine g_callW ?_
  | with_reducible refine g_meth ?_
  | with_reducible refine g_make ?_
  | with_reducible refine g_fld ?_
  | with_reducible refine g_dpop ?_
  | with_reducible refine g_callE ?_
  | with_reducible refine g_xg ?_)
abbrev bagO (x y z : Int) (cl : Addr) : HO := .lst [.int x, .int y, .int z, .ref cl]
structure BagOk (x y z : Int) (ns : List Int) : Prop where
  x0 : 0 ≤ x
  y0 : 0 ≤ y
  y1 : y < 2147483647
  z0 : 0 ≤ z
  nn : ∀ n ∈ ns, (0 : Int) ≤ n
def bagR (bag : Addr) : Res := exi fun (b : Int × Int × Int × Addr × List Int) => prp (BagOk b.1 b.2.1 b.2.2.1 b.2.2.2.2) (sp2 (pt bag (bagO b.1 b.2.1 b.2.2.1 b.2.2.2.1)) (pt b.2.2.2.1 (.lst (b.2.2.2.2.map V.int))))
theorem bag_open {bag : Addr} {Rs : List Res} {H : Hp} (S : M (bagR bag :: Rs) H) : ∃ x y z cl ns, BagOk x y z ns ∧ M (pt bag (bagO x y z cl) :: pt cl (.lst (ns.map V.int)) :: Rs) H := by
  obtain ⟨⟨x, y, z, cl, ns⟩, S⟩ := S.ex
  obtain ⟨ok, S⟩ := S.pr
  exact ⟨x, y, z, cl, ns, ok, S.sp⟩
theorem bag_close {bag cl : Addr} {x y z : Int} {ns : List Int} {Rs : List Res} {H : Hp} (ok : BagOk x y z ns) (S : M (pt bag (bagO x y z cl) :: pt cl (.lst (ns.map V.int)) :: Rs) H) : M (bagR bag :: Rs) H :=
  M.ex' (T := fun (b : Int × Int × Int × Addr × List Int) => prp (BagOk b.1 b.2.1 b.2.2.1 b.2.2.2.2) (sp2 (pt bag (bagO b.1 b.2.1 b.2.2.1 b.2.2.2.1)) (pt b.2.2.2.1 (.lst (b.2.2.2.2.map V.int))))) (x, y, z, cl, ns) (M.pr' ok S.sp')
def sp_l_take (K : PySem.W.Frag) : Sp := fun vs H Q _ => ∃ (Rs : List Res) (bag : Addr) (many : Int), vs = [.ref bag, .int many] ∧ M (bagR bag :: Rs) H ∧ 0 < many ∧ many < 2 ^ 62 ∧
  ∀ v H', 0 ≤ v → v < many → M (bagR bag :: Rs) H' → Q (.int v) H'
abbrev t_l_take_6 (K : PySem.W.Frag) : TS := (tSeq (tIfS (tTest (tOp uGe (tVar 4) (tC (.int 1000000000000000000)))) (tAsg (tVar 4) (gSub (tVar 0) (tC (.int 0)) uSet)) tNext)
  (tAsg (tOp uMod (tOp (uAdd K) (tOp (uAdd K) (tOp uMul (tOp (uIx K) (tVar 0) (tC (.int 1))) (tC (.int 48271))) (tOp uMod (tVar 4) (tC (.int 2147483647)))) (tOp uMul (tC (.int 7919)) (tOp (uIx K) (tVar 0) (tC (.int 2))))) (tC (.int 2147483647))) (gSub (tVar 0) (tC (.int 1)) uSet)))
abbrev t_l_take_5 (K : PySem.W.Frag) : TS := (tSeq (tAugS (tVar 0) (tC (.int 2)) (tC (.int 1)) (gIx K) iAdd uSet)
  (t_l_take_6 K))
abbrev t_l_take_3 (K : PySem.W.Frag) : TS := (tSeq (tIfS (tTest (tOp uLt (tOp (uIx K) (tVar 0) (tC (.int 2))) (tCB (uLen K) (tCons (tOp (uIx K) (tVar 0) (tC (.int 3))) tNil)))) (tAsg (tOp (uIx K) (tOp (uIx K) (tVar 0) (tC (.int 3))) (tOp (uIx K) (tVar 0) (tC (.int 2)))) (gName 4)) tNext)
  (t_l_take_5 K))
abbrev t_l_take_2 (K : PySem.W.Frag) : TS := (tSeq (tAsg (tC (.int 0)) (gName 4))
  (t_l_take_3 K))
abbrev t_l_take_11 (K : PySem.W.Frag) : TS := (tSeq (tAsg (tOp uDiv (tOp (uIx K) (tVar 0) (tC (.int 0))) (tVar 1)) (gSub (tVar 0) (tC (.int 0)) uSet))
  (tRet (tVar 5)))
abbrev t_l_take_10 (K : PySem.W.Frag) : TS := (tSeq (tAsg (tOp uMod (tOp (uIx K) (tVar 0) (tC (.int 0))) (tVar 1)) (gName 5))
  (t_l_take_11 K))
abbrev t_l_take_15 (K : PySem.W.Frag) : TS := (tSeq (tIfS (tTest (tOp uGt (tVar 1) (tC (.int 1000000)))) (tRet (tOp uMod (tOp (uAdd K) (tOp uMul (tVar 3) (tC (.int 1000000007))) (tVar 2)) (tVar 1))) tNext)
  (tRet (tOp uMod (tOp uDiv (tVar 3) (tC (.int 7))) (tVar 1))))
abbrev t_l_take_14 (K : PySem.W.Frag) : TS := (tSeq (tAsg (tOp uMod (tOp uMul (tOp uMod (tOp uMul (tVar 2) (tVar 2)) (tC (.int 998244353))) (tC (.int 30011))) (tC (.int 998244353))) (gName 3))
  (t_l_take_15 K))
abbrev t_l_take_13 (K : PySem.W.Frag) : TS := (tSeq (tAsg (tOp uMod (tOp uMul (tOp (uAdd K) (tOp (uIx K) (tVar 0) (tC (.int 1))) (tC (.int 1))) (tC (.int 39373))) (tC (.int 1000000007))) (gName 2))
  (t_l_take_14 K))
abbrev t_l_take_9 (K : PySem.W.Frag) : TS := (tSeq (tIfS (tTest (tOp uGt (tOp (uIx K) (tVar 0) (tC (.int 0))) (tC (.int 0)))) (t_l_take_10 K) tNext)
  (t_l_take_13 K))
abbrev t_l_take_1 (K : PySem.W.Frag) : TS := (tSeq (tIfS (tTest (tOp (uEq K) (tOp (uIx K) (tVar 0) (tC (.int 0))) (tC (.int 0)))) (t_l_take_2 K) tNext)
  (t_l_take_9 K))
abbrev t_l_take (K : PySem.W.Frag) : TS := (t_l_take_1 K)
theorem take_tail {K : PySem.W.Frag} {Q : VK} {Rs : List Res} {bag cl : Addr} {many x y z : Int} {ns : List Int} {c : Option V} {H : Hp} (m0 : 0 < many) (m1 : many < 2 ^ 62) (ok : BagOk x y z ns)
    (k : ∀ v H', 0 ≤ v → v < many → M (bagR bag :: Rs) H' → Q (.int v) H') (S : M (pt bag (bagO x y z cl) :: pt cl (.lst (ns.map V.int)) :: Rs) H) :
    t_l_take_9 K { nx := fun _ H' => Q .non H', rt := Q } [some (V.ref bag), some (V.int many), none, none, c, none] H := by
  have x0 := ok.x0
  have y0 := ok.y0
  have y1 := ok.y1
  walk_at "go"
  refine v_ifD (fun h => ?_) (fun h => ?_)
  · walk_at "go"
    refine v_set S 0 rfl rfl fun H' S' => ?_
    have S2 : M (pt bag (bagO (x / many) y z cl) :: pt cl (.lst (ns.map V.int)) :: Rs) H' := S'
    walk_at "go"
    exact k _ _ (Int.emod_nonneg _ (by omega)) (Int.emod_lt_of_pos _ m0) (bag_close ⟨Int.ediv_nonneg x0 (Int.le_of_lt m0), y0, y1, ok.z0, ok.nn⟩ S2)
  · walk_at "go"
    have f0 := Int.emod_nonneg ((y + 1) * 39373) (show (1000000007 : Int) ≠ 0 by decide)
    have f1 := Int.emod_lt_of_pos ((y + 1) * 39373) (show (0 : Int) < 1000000007 by decide)
    walk_at "go"
    have g0 := Int.emod_nonneg ((y + 1) * 39373 % 1000000007 * ((y + 1) * 39373 % 1000000007) % 998244353 * 30011) (show (998244353 : Int) ≠ 0 by decide)
    have g1 := Int.emod_lt_of_pos ((y + 1) * 39373 % 1000000007 * ((y + 1) * 39373 % 1000000007) % 998244353 * 30011) (show (0 : Int) < 998244353 by decide)
    refine v_ifD (fun h => ?_) (fun h => ?_)
    · walk_at "go"
      exact k _ _ (Int.emod_nonneg _ (by omega)) (Int.emod_lt_of_pos _ m0) (bag_close ok S)
    · walk_at "go"
      exact k _ _ (Int.emod_nonneg _ (by omega)) (Int.emod_lt_of_pos _ m0) (bag_close ok S)
theorem take_mid {K : PySem.W.Frag} {Q : VK} {Rs : List Res} {bag cl : Addr} {many y z c : Int} {ns : List Int} {H : Hp} (m0 : 0 < many) (m1 : many < 2 ^ 62) (ok : BagOk 0 y z ns) (c0 : 0 ≤ c)
    (k : ∀ v H', 0 ≤ v → v < many → M (bagR bag :: Rs) H' → Q (.int v) H') (S : M (pt bag (bagO 0 y z cl) :: pt cl (.lst (ns.map V.int)) :: Rs) H) :
    t_l_take_5 K { nx := t_l_take_9 K { nx := fun _ H' => Q .non H', rt := Q }, rt := Q } [some (V.ref bag), some (V.int many), none, none, some (.int c), none] H := by
  have y0 := ok.y0
  have y1 := ok.y1
  have z0 := ok.z0
  have fin : ∀ {x : Int} {H' : Hp}, 0 ≤ x → M (pt bag (bagO x y (z + 1) cl) :: pt cl (.lst (ns.map V.int)) :: Rs) H' →
      tAsg (tOp uMod (tOp (uAdd K) (tOp (uAdd K) (tOp uMul (tOp (uIx K) (tVar 0) (tC (.int 1))) (tC (.int 48271))) (tOp uMod (tVar 4) (tC (.int 2147483647)))) (tOp uMul (tC (.int 7919)) (tOp (uIx K) (tVar 0) (tC (.int 2))))) (tC (.int 2147483647))) (gSub (tVar 0) (tC (.int 1)) uSet)
        { nx := t_l_take_9 K { nx := fun _ H' => Q .non H', rt := Q }, rt := Q } [some (V.ref bag), some (V.int many), none, none, some (.int c), none] H' := by
    intro x H' x0 S
    walk_at "go"
    refine v_set S 0 rfl rfl fun H2 S' => ?_
    have S2 : M (pt bag (bagO x ((y * 48271 + c % 2147483647 + 7919 * (z + 1)) % 2147483647) (z + 1) cl) :: pt cl (.lst (ns.map V.int)) :: Rs) H2 := S'
    walk_at "nx"
    exact take_tail m0 m1 ⟨x0, Int.emod_nonneg _ (by decide), Int.emod_lt_of_pos _ (by decide), by omega, ok.nn⟩ k S2
  walk_at "go"
  refine v_set S 0 rfl rfl fun H' S' => ?_
  have S2 : M (pt bag (bagO 0 y (z + 1) cl) :: pt cl (.lst (ns.map V.int)) :: Rs) H' := S'
  walk_at "go"
  refine v_ifD (fun h => ?_) (fun h => ?_)
  · walk_at "go"
    refine v_set S2 0 rfl rfl fun H2 S' => ?_
    have S3 : M (pt bag (bagO c y (z + 1) cl) :: pt cl (.lst (ns.map V.int)) :: Rs) H2 := S'
    exact fin c0 S3
  · walk_at "st"
    exact fin (Int.le_refl 0) S2
theorem len_l_take {K : PySem.W.Frag} (vs : List V) (H : Hp) (Q : VK) (E : XK) (h : sp_l_take K vs H Q E) : vs.length = 2 := by
  obtain ⟨Rs, bag, many, rfl, _⟩ := h
  rfl
theorem pure_l_take {K : PySem.W.Frag} (vs : List V) (H : Hp) (Q : VK) (E : XK) (h : sp_l_take K vs H Q E) : t_l_take K { nx := fun _ H' => Q .non H', rt := Q } (start ["_law_bag_here", "_law_many", "_law_first", "_law_second", "_law_cell", "_law_value"] vs) H := by
  obtain ⟨Rs, bag, many, rfl, S, m0, m1, k⟩ := h
  obtain ⟨x, y, z, cl, ns, ok, S⟩ := bag_open S
  show t_l_take K _ [some (V.ref bag), some (V.int many), none, none, none, none] H
  walk_at "go"
  refine v_ifD (fun h => ?_) (fun h => ?_)
  · subst h
    walk_at "go"
    refine v_ifD (fun h => ?_) (fun h => ?_)
    · rw [List.length_map] at h
      walk_at "go"
      refine v_ixL (SqL.of (S.got 1 rfl)) (atI_ints ok.z0 h) ?_
      walk_at "nx"
      refine take_mid m0 m1 ok ?_ k S
      rw [List.getD_eq_getElem?_getD]
      cases e : ns[z.toNat]? with
      | none => exact Int.le_refl 0
      | some n => exact ok.nn n (List.mem_of_getElem? e)
    · walk_at "st"
      exact take_mid m0 m1 ok (Int.le_refl 0) k S
  · walk_at "st"
    exact take_tail m0 m1 ok k S
def sp_l_bag (K : PySem.W.Frag) : Sp := fun vs H Q _ => ∃ (Rs : List Res) (a : Addr) (ns : List Int), vs = [.ref a] ∧ M Rs H ∧ Ent Rs (fun H => SqL K H a (ns.map V.int)) ∧ ns.length ≤ 63 ∧ ∀ bag H', M (bagR bag :: Rs) H' → Q (.ref bag) H'
theorem len_l_bag {K : PySem.W.Frag} (vs : List V) (H : Hp) (Q : VK) (E : XK) (h : sp_l_bag K vs H Q E) : vs.length = 1 := by
  obtain ⟨Rs, a, ns, rfl, _⟩ := h
  rfl
abbrev t_l_bag (K : PySem.W.Frag) : TS := (tRet (tLst (tCons (tC (.int 0)) (tCons (tC (.int 1234567891)) (tCons (tC (.int 0)) (tCons (tLc (iList K (tSl (uSl K) (tVar 0) tNoPart (tPart (tC (.int 63))))) (gName 1) tYes (tCB rAbs (tCons (tVar 1) tNil)) [1]) tNil))))))
theorem pure_l_bag {K : PySem.W.Frag} (vs : List V) (H : Hp) (Q : VK) (E : XK) (h : sp_l_bag K vs H Q E) : t_l_bag K { nx := fun _ H' => Q .non H', rt := Q } (start ["_law_script", "_law_cell"] vs) H := by
  obtain ⟨Rs, a, ns, rfl, S, hS, hl, k⟩ := h
  show t_l_bag K _ [some (V.ref a), none] H
  walk_at "go"
  refine v_slL S (hS H S) fun q H1 S1 => ?_
  rw [show cutV (ns.map V.int) none (some 63) = (ns.map V.int).take 63 from cut_to _ 63, ← List.map_take] at S1
  refine v_itL (SqL.of (S1.got 0 rfl)) ?_
  refine lc_W walk_list S1 (fun i acc => ∃ ms : List Int, acc = ms.map V.int ∧ ms.length ≤ i ∧ ∀ n ∈ ms, 0 ≤ n) ⟨[], rfl, Nat.le_refl _, (fun _ h => nomatch h)⟩ (fun H S => SqL.of (S.got 0 rfl)) ?_ ?_
  · intro i x acc E H H' hi hp S y
    obtain ⟨rfl, hx⟩ := y
    obtain ⟨n, _, rfl⟩ := ints_get hx
    obtain ⟨ms, rfl, hm, hn⟩ := hp
    walk_at "go"
    have hz : i < 63 := by
      rw [List.length_map, List.length_take] at hi
      omega
    refine lc_next S 0 rfl (by rw [List.length_map]; omega) fun H' S' => ?_
    refine ⟨_, ⟨ms ++ [if n < 0 then -n else n], by simp, by simp; omega, fun m h => ?_⟩, S'⟩
    rcases List.mem_append.mp h with h | h
    · exact hn m h
    · cases List.mem_singleton.mp h
      split <;> omega
  · rintro E acc H ⟨ms, rfl, _, hn⟩ S
    walk_at "go"
    refine v_lst S (by simp) fun p H' S' => ?_
    walk_at "go"
    have S2 : M (pt p (bagO 0 1234567891 0 E) :: pt E (.lst (ms.map V.int)) :: Rs) H' := (S'.at 2 rfl).tl
    exact k p H' (bag_close ⟨by decide, by decide, by decide, by decide, hn⟩ S2)
/-- a draw -/
theorem u_take {K : PySem.W.Frag} {Rs : List Res} {H : Hp} {bag : Addr} {many : Int} {Q : VK} {E : XK} (S : M (bagR bag :: Rs) H) (h : 0 < many ∧ many < 2 ^ 62) (k : ∀ v H', 0 ≤ v → v < many → M (bagR bag :: Rs) H' → Q (.int v) H') :
    sp_l_take K ([.ref bag, .int many] ++ []) H Q E := ⟨Rs, bag, many, rfl, S, h.1, h.2, k⟩
def sp_l_alike (K : PySem.W.Frag) : Sp := fun vs H Q _ => ∃ (x y : V) (d : PyData), vs = [x, y] ∧ Dq K H x d ∧ Dq K H y d ∧ AlkOk d ∧ Q (.bl true) H
theorem len_l_alike {K : PySem.W.Frag} (vs : List V) (H : Hp) (Q : VK) (E : XK) (h : sp_l_alike K vs H Q E) : vs.length = 2 := by
  obtain ⟨x, y, d, rfl, _⟩ := h
  rfl
abbrev t_l_alike (K : PySem.W.Frag) : TS := (tRet (tAndV (tOp (uEqQ K) (tVar 0) (tVar 1)) (tOp (uEqQ K) (tCB (rReprQ K) (tCons (tVar 0) tNil)) (tCB (rReprQ K) (tCons (tVar 1) tNil)))))
theorem pure_l_alike {K : PySem.W.Frag} (vs : List V) (H : Hp) (Q : VK) (E : XK) (h : sp_l_alike K vs H Q E) : t_l_alike K { nx := fun _ H' => Q .non H', rt := Q } (L2.start ["_law_found", "_law_due"] vs) H := by
  obtain ⟨x, y, d, rfl, h1, h2, ok, k⟩ := h
  show t_l_alike K _ [some x, some y] H
  refine g_ret (g_andV (g_op (g_var rfl (g_var rfl (.inr ⟨d, h1, h2, ok.ok, ok.dp, g_bl (v_ifT ?_)⟩)))))
  refine g_op (g_cb (g_cons (g_var rfl (g_nil ⟨x, d, rfl, h1, ok.sh, ok.dp, ok.ln, ?_⟩))))
  refine g_cb (g_cons (g_var rfl (g_nil ⟨y, d, rfl, h2, ok.sh, ok.dp, ok.ln, ?_⟩)))
  refine .inl (v_eqS ?_)
  rw [decide_eq_true rfl]
  exact k
structure TxC (K : PySem.W.Frag) : Prop where
  cl_House : Cls K (He.ga K "House")
  na_House_signs_by : NoAttr K (He.ga K "House") "signs_by"
  xc_Wrong : ExcC K (He.ga K "Wrong")
  xn_Wrong_at : chN K "Wrong" "at" = true
  xm_Wrong_StoreError : PySem.W.exmOne K (.ref (He.ga K "Wrong")) (.ref (He.ga K "StoreError")) = some true
  xm_Wrong_Missing : PySem.W.exmOne K (.ref (He.ga K "Wrong")) (.ref (He.ga K "Missing")) = some false
  xm_Wrong_NoFile : PySem.W.exmOne K (.ref (He.ga K "Wrong")) (.ref (He.ga K "NoFile")) = some false
  xm_Wrong_There : PySem.W.exmOne K (.ref (He.ga K "Wrong")) (.ref (He.ga K "There")) = some false
  xm_Wrong_TooMany : PySem.W.exmOne K (.ref (He.ga K "Wrong")) (.ref (He.ga K "TooMany")) = some false
  xk_Wrong_NoFile : PySem.W.kitOne K (.ref (He.ga K "Wrong")) (.ref (He.ga K "NoFile")) = some false
  xk_Wrong_There : PySem.W.kitOne K (.ref (He.ga K "Wrong")) (.ref (He.ga K "There")) = some false
  xk_Wrong_TooMany : PySem.W.kitOne K (.ref (He.ga K "Wrong")) (.ref (He.ga K "TooMany")) = some false
  xk_Wrong_LookupError : PySem.W.kitOne K (.ref (He.ga K "Wrong")) (.type "LookupError") = some false
  xk_Wrong_ValueError : PySem.W.kitOne K (.ref (He.ga K "Wrong")) (.type "ValueError") = some true
  xk_Wrong_Wrong : PySem.W.kitOne K (.ref (He.ga K "Wrong")) (.ref (He.ga K "Wrong")) = some true
  xc_TooMany : ExcC K (He.ga K "TooMany")
  xn_TooMany_most : chN K "TooMany" "most" = true
  xm_TooMany_StoreError : PySem.W.exmOne K (.ref (He.ga K "TooMany")) (.ref (He.ga K "StoreError")) = some true
  xm_TooMany_Missing : PySem.W.exmOne K (.ref (He.ga K "TooMany")) (.ref (He.ga K "Missing")) = some false
  xm_TooMany_NoFile : PySem.W.exmOne K (.ref (He.ga K "TooMany")) (.ref (He.ga K "NoFile")) = some false
  xm_TooMany_There : PySem.W.exmOne K (.ref (He.ga K "TooMany")) (.ref (He.ga K "There")) = some false
  xm_TooMany_TooMany : PySem.W.exmOne K (.ref (He.ga K "TooMany")) (.ref (He.ga K "TooMany")) = some true
  xk_TooMany_NoFile : PySem.W.kitOne K (.ref (He.ga K "TooMany")) (.ref (He.ga K "NoFile")) = some false
  xk_TooMany_There : PySem.W.kitOne K (.ref (He.ga K "TooMany")) (.ref (He.ga K "There")) = some false
  xk_TooMany_TooMany : PySem.W.kitOne K (.ref (He.ga K "TooMany")) (.ref (He.ga K "TooMany")) = some true
  xk_TooMany_LookupError : PySem.W.kitOne K (.ref (He.ga K "TooMany")) (.type "LookupError") = some false
  xk_TooMany_ValueError : PySem.W.kitOne K (.ref (He.ga K "TooMany")) (.type "ValueError") = some true
  xk_TooMany_Wrong : PySem.W.kitOne K (.ref (He.ga K "TooMany")) (.ref (He.ga K "Wrong")) = some false
  xc_NoFile : ExcC K (He.ga K "NoFile")
  xn_NoFile_name : chN K "NoFile" "name" = true
  xm_NoFile_StoreError : PySem.W.exmOne K (.ref (He.ga K "NoFile")) (.ref (He.ga K "StoreError")) = some false
  xm_NoFile_Missing : PySem.W.exmOne K (.ref (He.ga K "NoFile")) (.ref (He.ga K "Missing")) = some true
  xm_NoFile_NoFile : PySem.W.exmOne K (.ref (He.ga K "NoFile")) (.ref (He.ga K "NoFile")) = some true
  xm_NoFile_There : PySem.W.exmOne K (.ref (He.ga K "NoFile")) (.ref (He.ga K "There")) = some false
  xm_NoFile_TooMany : PySem.W.exmOne K (.ref (He.ga K "NoFile")) (.ref (He.ga K "TooMany")) = some false
  xk_NoFile_NoFile : PySem.W.kitOne K (.ref (He.ga K "NoFile")) (.ref (He.ga K "NoFile")) = some true
  xk_NoFile_There : PySem.W.kitOne K (.ref (He.ga K "NoFile")) (.ref (He.ga K "There")) = some false
  xk_NoFile_TooMany : PySem.W.kitOne K (.ref (He.ga K "NoFile")) (.ref (He.ga K "TooMany")) = some false
  xk_NoFile_LookupError : PySem.W.kitOne K (.ref (He.ga K "NoFile")) (.type "LookupError") = some true
  xk_NoFile_ValueError : PySem.W.kitOne K (.ref (He.ga K "NoFile")) (.type "ValueError") = some false
  xk_NoFile_Wrong : PySem.W.kitOne K (.ref (He.ga K "NoFile")) (.ref (He.ga K "Wrong")) = some false
  xc_There : ExcC K (He.ga K "There")
  xn_There_thing : chN K "There" "thing" = true
  xm_There_StoreError : PySem.W.exmOne K (.ref (He.ga K "There")) (.ref (He.ga K "StoreError")) = some true
  xm_There_Missing : PySem.W.exmOne K (.ref (He.ga K "There")) (.ref (He.ga K "Missing")) = some false
  xm_There_NoFile : PySem.W.exmOne K (.ref (He.ga K "There")) (.ref (He.ga K "NoFile")) = some false
  xm_There_There : PySem.W.exmOne K (.ref (He.ga K "There")) (.ref (He.ga K "There")) = some true
  xm_There_TooMany : PySem.W.exmOne K (.ref (He.ga K "There")) (.ref (He.ga K "TooMany")) = some false
  xk_There_NoFile : PySem.W.kitOne K (.ref (He.ga K "There")) (.ref (He.ga K "NoFile")) = some false
  xk_There_There : PySem.W.kitOne K (.ref (He.ga K "There")) (.ref (He.ga K "There")) = some true
  xk_There_TooMany : PySem.W.kitOne K (.ref (He.ga K "There")) (.ref (He.ga K "TooMany")) = some false
  xk_There_LookupError : PySem.W.kitOne K (.ref (He.ga K "There")) (.type "LookupError") = some false
  xk_There_ValueError : PySem.W.kitOne K (.ref (He.ga K "There")) (.type "ValueError") = some true
  xk_There_Wrong : PySem.W.kitOne K (.ref (He.ga K "There")) (.ref (He.ga K "Wrong")) = some false
inductive Ex where
  | Wrong (w : PyData)
  | TooMany (w : PyData)
  | NoFile (w : PyData)
  | There (w : PyData)
def Ex.cls : Ex → Str
  | .Wrong _ => "Wrong"
  | .TooMany _ => "TooMany"
  | .NoFile _ => "NoFile"
  | .There _ => "There"
def Ex.fld : Ex → Str
  | .Wrong _ => "at"
  | .TooMany _ => "most"
  | .NoFile _ => "name"
  | .There _ => "thing"
def Ex.val : Ex → PyData
  | .Wrong w => w
  | .TooMany w => w
  | .NoFile w => w
  | .There w => w
def p_l_any (a_some : (List Str)) (P : Str → Prop) : Prop := takeD ((a_some).length : Int) fun n2 => ∃ x5, atI a_some n2 = some x5 ∧ P x5
def sp_l_any (K : PySem.W.Frag) : Sp := fun vs H Q _ => ∃ (Rs : List Res) (a_bag_here : Addr) (R_a_some : Res) (v_a_some : V) (a_some : (List Str)) (P : Str → Prop), vs = [(V.ref a_bag_here), v_a_some] ∧ Brw R_a_some K v_a_some ((eL eS) a_some) ∧ M (bagR a_bag_here :: R_a_some :: Rs) H ∧ p_l_any a_some P ∧ ∀ (r : Str) H', P r → M (bagR a_bag_here :: R_a_some :: Rs) H' → Q (V.str r) H'
theorem len_l_any {K : PySem.W.Frag} (vs : List V) (H : Hp) (Q : VK) (E : XK) (h : sp_l_any K vs H Q E) : vs.length = 2 := by
  obtain ⟨Rs, a_bag_here, R_a_some, v_a_some, a_some, P, rfl, _⟩ := h
  rfl
abbrev t_l_any (K : PySem.W.Frag) : TS := (tRet (tOp (uIx K) (tVar 1) (tCall (sp_l_take K) [] E0 (tCons (tVar 0) (tCons (tCB (uLen K) (tCons (tVar 1) tNil)) tNil)))))
theorem pure_l_any {K : PySem.W.Frag} (vs : List V) (H : Hp) (Q : VK) (E : XK) (h : sp_l_any K vs H Q E) : t_l_any K { nx := fun _ H' => Q .non H', rt := Q } (L2.start ["_law_bag_here", "_law_some"] vs) H := by
  obtain ⟨Rs, a_bag_here, R_a_some, v_a_some, a_some, P, rfl, h_a_some, S0, hf, hk⟩ := h
  show t_l_any K _ [some (V.ref a_bag_here), some v_a_some] H
  refine g_ret (g_op (g_var rfl (g_call (g_cons (g_var rfl (g_cons (g_cb (g_cons (g_var rfl (g_nil (v_lenN (h_a_some _ _ (M.at S0 1 rfl)) (g_nil ?_))))))))))))
  obtain ⟨h1, hf⟩ := hf
  refine u_take (S0.at 0 rfl) h1 fun n2 H4 n2l n2u (S3 : M (bagR a_bag_here :: R_a_some :: Rs) H4) => ?_
  replace hf := hf n2 n2l n2u
  obtain ⟨x5, h6, hf⟩ := hf
  refine v_ixN flS (h_a_some _ _ (M.at S3 1 rfl)) h6 ?_
  exact hk _ _ hf (M.sub (.cons 0 rfl (.cons 0 rfl (.refl _))) S3)
def p_l_content  (P : (List Int) → Prop) : Prop := takeD 5 fun n2 => takeD 5 fun n6 => takeD 13 fun n10 => takeD 49 fun n14 => takeD 3 fun n22 => ∃ x27, atI ([n6, n10, n14]) n22 = some x27 ∧ if (decide (n2 = 0)) = true then (((-(2 ^ 62) : Int) ≤ x27 ∧ x27 < (2 ^ 62 : Int)) ∧ (rng x27).length ≤ 100000 ∧ lcD (fun (x33 : Int) (k40 : Option Int → Prop) => takeD 3 fun n46 => ∃ x51, atI ([1, 7, 2]) n46 = some x51 ∧ k40 (some x51)) (rng x27) [] fun acc30 => P acc30) else (if (decide (n2 = 1)) = true then (((-(2 ^ 62) : Int) ≤ x27 ∧ x27 < (2 ^ 62 : Int)) ∧ (rng x27).length ≤ 100000 ∧ lcD (fun (x64 : Int) (k71 : Option Int → Prop) => takeD 142 fun n73 => (CMul 7 n73 ∨ CMulW 7 n73) ∧ k71 (some (1 + (7 * n73)))) (rng x27) [] fun acc61 => P acc61) else (if (decide (n2 = 2)) = true then (((-(2 ^ 62) : Int) ≤ x27 ∧ x27 < (2 ^ 62 : Int)) ∧ (rng x27).length ≤ 100000 ∧ lcD (fun (x88 : Int) (k95 : Option Int → Prop) => takeD 142 fun n97 => (CMul 7 n97 ∨ CMulW 7 n97) ∧ k95 (some (7 * n97))) (rng x27) [] fun acc85 => P acc85) else (if (decide (n2 = 3)) = true then (((-(2 ^ 62) : Int) ≤ x27 ∧ x27 < (2 ^ 62 : Int)) ∧ (rng x27).length ≤ 100000 ∧ lcD (fun (x112 : Int) (k119 : Option Int → Prop) => takeD 2 fun n125 => ∃ x130, atI ([0, 999]) n125 = some x130 ∧ k119 (some x130)) (rng x27) [] fun acc109 => P acc109) else (((-(2 ^ 62) : Int) ≤ x27 ∧ x27 < (2 ^ 62 : Int)) ∧ (rng x27).length ≤ 100000 ∧ lcD (fun (x143 : Int) (k150 : Option Int → Prop) => takeD 1000 fun n152 => k150 (some n152)) (rng x27) [] fun acc140 => P acc140))))
def sp_l_content (K : PySem.W.Frag) : Sp := fun vs H Q _ => ∃ (Rs : List Res) (a_bag_here : Addr) (P : (List Int) → Prop), vs = [(V.ref a_bag_here)] ∧ M (bagR a_bag_here :: Rs) H ∧ p_l_content P ∧ ∀ (r : (List Int)) (v : V) H', P r → M (da K v ((eL eI) r) :: bagR a_bag_here :: Rs) H' → Q v H'
theorem len_l_content {K : PySem.W.Frag} (vs : List V) (H : Hp) (Q : VK) (E : XK) (h : sp_l_content K vs H Q E) : vs.length = 1 := by
  obtain ⟨Rs, a_bag_here, P, rfl, _⟩ := h
  rfl
abbrev t_l_content_9 (K : PySem.W.Frag) : TS := (tSeq (tIfS (tTest (tOp (uEq K) (tVar 1) (tC (.int 3)))) (tRet (tLc (iRng1 (tCons (tVar 2) tNil)) (gName 3) tYes (tOp (uIx K) (tLst (tCons (tC (.int 0)) (tCons (tC (.int 999)) tNil))) (tCall (sp_l_take K) [] E0 (tCons (tVar 0) (tCons (tC (.int 2)) tNil)))) [3])) tNext)
  (tRet (tLc (iRng1 (tCons (tVar 2) tNil)) (gName 3) tYes (tCall (sp_l_take K) [] E0 (tCons (tVar 0) (tCons (tC (.int 1000)) tNil))) [3])))
abbrev t_l_content_7 (K : PySem.W.Frag) : TS := (tSeq (tIfS (tTest (tOp (uEq K) (tVar 1) (tC (.int 2)))) (tRet (tLc (iRng1 (tCons (tVar 2) tNil)) (gName 3) tYes (tOp uMul (tC (.int 7)) (tCall (sp_l_take K) [] E0 (tCons (tVar 0) (tCons (tC (.int 142)) tNil)))) [3])) tNext)
  (t_l_content_9 K))
abbrev t_l_content_5 (K : PySem.W.Frag) : TS := (tSeq (tIfS (tTest (tOp (uEq K) (tVar 1) (tC (.int 1)))) (tRet (tLc (iRng1 (tCons (tVar 2) tNil)) (gName 3) tYes (tOp (uAdd K) (tC (.int 1)) (tOp uMul (tC (.int 7)) (tCall (sp_l_take K) [] E0 (tCons (tVar 0) (tCons (tC (.int 142)) tNil))))) [3])) tNext)
  (t_l_content_7 K))
abbrev t_l_content_3 (K : PySem.W.Frag) : TS := (tSeq (tIfS (tTest (tOp (uEq K) (tVar 1) (tC (.int 0)))) (tRet (tLc (iRng1 (tCons (tVar 2) tNil)) (gName 3) tYes (tOp (uIx K) (tLst (tCons (tC (.int 1)) (tCons (tC (.int 7)) (tCons (tC (.int 2)) tNil)))) (tCall (sp_l_take K) [] E0 (tCons (tVar 0) (tCons (tC (.int 3)) tNil)))) [3])) tNext)
  (t_l_content_5 K))
abbrev t_l_content_2 (K : PySem.W.Frag) : TS := (tSeq (tAsg (tOp (uIx K) (tLst (tCons (tCall (sp_l_take K) [] E0 (tCons (tVar 0) (tCons (tC (.int 5)) tNil))) (tCons (tCall (sp_l_take K) [] E0 (tCons (tVar 0) (tCons (tC (.int 13)) tNil))) (tCons (tCall (sp_l_take K) [] E0 (tCons (tVar 0) (tCons (tC (.int 49)) tNil))) tNil)))) (tCall (sp_l_take K) [] E0 (tCons (tVar 0) (tCons (tC (.int 3)) tNil)))) (gName 2))
  (t_l_content_3 K))
abbrev t_l_content_1 (K : PySem.W.Frag) : TS := (tSeq (tAsg (tCall (sp_l_take K) [] E0 (tCons (tVar 0) (tCons (tC (.int 5)) tNil))) (gName 1))
  (t_l_content_2 K))
abbrev t_l_content (K : PySem.W.Frag) : TS := (t_l_content_1 K)
theorem pure_l_content {K : PySem.W.Frag} (vs : List V) (H : Hp) (Q : VK) (E : XK) (h : sp_l_content K vs H Q E) : t_l_content K { nx := fun _ H' => Q .non H', rt := Q } (L2.start ["_law_bag_here", "_law_pick", "_law_long", "_law_k"] vs) H := by
  obtain ⟨Rs, a_bag_here, P, rfl, S0, hf, hk⟩ := h
  show t_l_content K _ [some (V.ref a_bag_here), none, none, none] H
  refine g_seq (g_asg (g_call (g_cons (g_var rfl (g_cons (g_c (g_nil ?_)))))))
  obtain ⟨h1, hf⟩ := hf
  refine u_take (S0.at 0 rfl) h1 fun n2 H4 n2l n2u (S3 : M (bagR a_bag_here :: Rs) H4) => ?_
  replace hf := hf n2 n2l n2u
  refine g_nx (g_seq (g_asg (g_op (g_lst (g_cons (g_call (g_cons (g_var rfl (g_cons (g_c (g_nil ?_)))))))))))
  obtain ⟨h5, hf⟩ := hf
  refine u_take (S3.at 0 rfl) h5 fun n6 H8 n6l n6u (S7 : M (bagR a_bag_here :: Rs) H8) => ?_
  replace hf := hf n6 n6l n6u
  refine g_cons (g_call (g_cons (g_var rfl (g_cons (g_c (g_nil ?_))))))
  obtain ⟨h9, hf⟩ := hf
  refine u_take (S7.at 0 rfl) h9 fun n10 H12 n10l n10u (S11 : M (bagR a_bag_here :: Rs) H12) => ?_
  replace hf := hf n10 n10l n10u
  refine g_cons (g_call (g_cons (g_var rfl (g_cons (g_c (g_nil ?_))))))
  obtain ⟨h13, hf⟩ := hf
  refine u_take (S11.at 0 rfl) h13 fun n14 H16 n14l n14u (S15 : M (bagR a_bag_here :: Rs) H16) => ?_
  replace hf := hf n14 n14l n14u
  refine g_nil (v_lsto (ds := ([n6, n10, n14]).map eI) S15 (EnF.consA (EnF.all fun _ => .int _) (EnF.consA (EnF.all fun _ => .int _) (EnF.consA (EnF.all fun _ => .int _) EnF.nilA))) (len_ok rfl) fun p17 H19 (S18 : M (acR K p17 (([n6, n10, n14]).map eI) :: bagR a_bag_here :: Rs) H19) => ?_)
  refine g_call (g_cons (g_var rfl (g_cons (g_c (g_nil ?_)))))
  obtain ⟨h21, hf⟩ := hf
  refine u_take (S18.at 1 rfl) h21 fun n22 H24 n22l n22u (S23 : M (bagR a_bag_here :: acR K p17 (([n6, n10, n14]).map eI) :: Rs) H24) => ?_
  replace hf := hf n22 n22l n22u
  have S25 : M (da K (V.ref p17) ((eL eI) ([n6, n10, n14])) :: bagR a_bag_here :: Rs) H24 := acR_fixL (S23.at 1 rfl)
  obtain ⟨x27, h28, hf⟩ := hf
  refine v_ixN flI (M.gotA S25 0 rfl) h28 (g_nx (g_seq (g_if (g_test (g_op (g_var rfl (g_c (v_eqI (g_bl (v_iff hf (fun _ hf => ?_) (fun _ hf => ?_)))))))))))
  ·
    obtain ⟨h29, hf⟩ := hf
    refine g_ret (g_lc (g_iRng1 (g_cons (g_var rfl (g_nil (v_itR h29 ?_))))))
    refine lc_rng (K := K) (e' := eI) hf S25 (fun x33 acc30 E31 H39 kk32 N34 hl35 S38 hf hp36 hn37 => ?_) (fun E31 acc30 H56 hf S55 => ?_)
    ·
      refine g_name (g_wipe rfl (g_yes (v_ifT (g_op (g_lst (g_cons (g_c (g_cons (g_c (g_cons (g_c (g_nil (v_lsto (ds := ([1, 7, 2]).map eI) S38 (EnF.consA (EnF.all fun _ => .int _) (EnF.consA (EnF.all fun _ => .int _) (EnF.consA (EnF.all fun _ => .int _) EnF.nilA))) (len_ok rfl) fun p41 H43 (S42 : M (acR K p41 (([1, 7, 2]).map eI) :: acR K E31 (acc30.map eI) :: da K (V.ref p17) ((eL eI) ([n6, n10, n14])) :: bagR a_bag_here :: Rs) H43) => ?_)))))))))))))
      refine g_call (g_cons (g_var rfl (g_cons (g_c (g_nil ?_)))))
      obtain ⟨h45, hf⟩ := hf
      refine u_take (S42.at 3 rfl) h45 fun n46 H48 n46l n46u (S47 : M (bagR a_bag_here :: acR K p41 (([1, 7, 2]).map eI) :: acR K E31 (acc30.map eI) :: da K (V.ref p17) ((eL eI) ([n6, n10, n14])) :: Rs) H48) => ?_
      replace hf := hf n46 n46l n46u
      have S49 : M (da K (V.ref p41) ((eL eI) ([1, 7, 2])) :: bagR a_bag_here :: acR K E31 (acc30.map eI) :: da K (V.ref p17) ((eL eI) ([n6, n10, n14])) :: Rs) H48 := acR_fixL (S47.at 1 rfl)
      obtain ⟨x51, h52, hf⟩ := hf
      refine v_ixN flI (M.gotA S49 0 rfl) h52 (acR_put S49 2 rfl (EnF.all fun _ => .int _) hl35 fun H54 (S53 : M (acR K E31 (acc30.map eI ++ [eI x51]) :: da K (V.ref p41) ((eL eI) ([1, 7, 2])) :: bagR a_bag_here :: da K (V.ref p17) ((eL eI) ([n6, n10, n14])) :: Rs) H54) => ?_)
      exact hp36 _ _ hf (M.sub (.cons 0 rfl (.cons 2 rfl (.cons 1 rfl (.tl (.refl _))))) S53)
    have S58 : M (da K (V.ref E31) ((eL eI) acc30) :: da K (V.ref p17) ((eL eI) ([n6, n10, n14])) :: bagR a_bag_here :: Rs) H56 := acR_fixL S55
    exact hk _ _ _ hf (M.sub (.cons 0 rfl (.cons 1 rfl (.tl (.refl _)))) S58)
  ·
    refine g_next (g_nx (g_seq (g_if (g_test (g_op (g_var rfl (g_c (v_eqI (g_bl (v_iff hf (fun _ hf => ?_) (fun _ hf => ?_)))))))))))
    ·
      obtain ⟨h60, hf⟩ := hf
      refine g_ret (g_lc (g_iRng1 (g_cons (g_var rfl (g_nil (v_itR h60 ?_))))))
      refine lc_rng (K := K) (e' := eI) hf S25 (fun x64 acc61 E62 H70 kk63 N65 hl66 S69 hf hp67 hn68 => ?_) (fun E62 acc61 H80 hf S79 => ?_)
      ·
        refine g_name (g_wipe rfl (g_yes (v_ifT (g_op (g_c (g_op (g_c (g_call (g_cons (g_var rfl (g_cons (g_c (g_nil ?_)))))))))))))
        obtain ⟨h72, hf⟩ := hf
        refine u_take (S69.at 2 rfl) h72 fun n73 H75 n73l n73u (S74 : M (bagR a_bag_here :: acR K E62 (acc61.map eI) :: da K (V.ref p17) ((eL eI) ([n6, n10, n14])) :: Rs) H75) => ?_
        replace hf := hf n73 n73l n73u
        obtain ⟨h76, hf⟩ := hf
        refine v_mul h76 (v_add (acR_put S74 1 rfl (EnF.all fun _ => .int _) hl66 fun H78 (S77 : M (acR K E62 (acc61.map eI ++ [eI (1 + (7 * n73))]) :: bagR a_bag_here :: da K (V.ref p17) ((eL eI) ([n6, n10, n14])) :: Rs) H78) => ?_))
        exact hp67 _ _ hf (M.sub (.cons 0 rfl (.cons 1 rfl (.cons 0 rfl (.refl _)))) S77)
      have S82 : M (da K (V.ref E62) ((eL eI) acc61) :: da K (V.ref p17) ((eL eI) ([n6, n10, n14])) :: bagR a_bag_here :: Rs) H80 := acR_fixL S79
      exact hk _ _ _ hf (M.sub (.cons 0 rfl (.cons 1 rfl (.tl (.refl _)))) S82)
    ·
      refine g_next (g_nx (g_seq (g_if (g_test (g_op (g_var rfl (g_c (v_eqI (g_bl (v_iff hf (fun _ hf => ?_) (fun _ hf => ?_)))))))))))
      ·
        obtain ⟨h84, hf⟩ := hf
        refine g_ret (g_lc (g_iRng1 (g_cons (g_var rfl (g_nil (v_itR h84 ?_))))))
        refine lc_rng (K := K) (e' := eI) hf S25 (fun x88 acc85 E86 H94 kk87 N89 hl90 S93 hf hp91 hn92 => ?_) (fun E86 acc85 H104 hf S103 => ?_)
        ·
          refine g_name (g_wipe rfl (g_yes (v_ifT (g_op (g_c (g_call (g_cons (g_var rfl (g_cons (g_c (g_nil ?_)))))))))))
          obtain ⟨h96, hf⟩ := hf
          refine u_take (S93.at 2 rfl) h96 fun n97 H99 n97l n97u (S98 : M (bagR a_bag_here :: acR K E86 (acc85.map eI) :: da K (V.ref p17) ((eL eI) ([n6, n10, n14])) :: Rs) H99) => ?_
          replace hf := hf n97 n97l n97u
          obtain ⟨h100, hf⟩ := hf
          refine v_mul h100 (acR_put S98 1 rfl (EnF.all fun _ => .int _) hl90 fun H102 (S101 : M (acR K E86 (acc85.map eI ++ [eI (7 * n97)]) :: bagR a_bag_here :: da K (V.ref p17) ((eL eI) ([n6, n10, n14])) :: Rs) H102) => ?_)
          exact hp91 _ _ hf (M.sub (.cons 0 rfl (.cons 1 rfl (.cons 0 rfl (.refl _)))) S101)
        have S106 : M (da K (V.ref E86) ((eL eI) acc85) :: da K (V.ref p17) ((eL eI) ([n6, n10, n14])) :: bagR a_bag_here :: Rs) H104 := acR_fixL S103
        exact hk _ _ _ hf (M.sub (.cons 0 rfl (.cons 1 rfl (.tl (.refl _)))) S106)
      ·
        refine g_next (g_nx (g_seq (g_if (g_test (g_op (g_var rfl (g_c (v_eqI (g_bl (v_iff hf (fun _ hf => ?_) (fun _ hf => ?_)))))))))))
        ·
          obtain ⟨h108, hf⟩ := hf
          refine g_ret (g_lc (g_iRng1 (g_cons (g_var rfl (g_nil (v_itR h108 ?_))))))
          refine lc_rng (K := K) (e' := eI) hf S25 (fun x112 acc109 E110 H118 kk111 N113 hl114 S117 hf hp115 hn116 => ?_) (fun E110 acc109 H135 hf S134 => ?_)
          ·
            refine g_name (g_wipe rfl (g_yes (v_ifT (g_op (g_lst (g_cons (g_c (g_cons (g_c (g_nil (v_lsto (ds := ([0, 999]).map eI) S117 (EnF.consA (EnF.all fun _ => .int _) (EnF.consA (EnF.all fun _ => .int _) EnF.nilA)) (len_ok rfl) fun p120 H122 (S121 : M (acR K p120 (([0, 999]).map eI) :: acR K E110 (acc109.map eI) :: da K (V.ref p17) ((eL eI) ([n6, n10, n14])) :: bagR a_bag_here :: Rs) H122) => ?_)))))))))))
            refine g_call (g_cons (g_var rfl (g_cons (g_c (g_nil ?_)))))
            obtain ⟨h124, hf⟩ := hf
            refine u_take (S121.at 3 rfl) h124 fun n125 H127 n125l n125u (S126 : M (bagR a_bag_here :: acR K p120 (([0, 999]).map eI) :: acR K E110 (acc109.map eI) :: da K (V.ref p17) ((eL eI) ([n6, n10, n14])) :: Rs) H127) => ?_
            replace hf := hf n125 n125l n125u
            have S128 : M (da K (V.ref p120) ((eL eI) ([0, 999])) :: bagR a_bag_here :: acR K E110 (acc109.map eI) :: da K (V.ref p17) ((eL eI) ([n6, n10, n14])) :: Rs) H127 := acR_fixL (S126.at 1 rfl)
            obtain ⟨x130, h131, hf⟩ := hf
            refine v_ixN flI (M.gotA S128 0 rfl) h131 (acR_put S128 2 rfl (EnF.all fun _ => .int _) hl114 fun H133 (S132 : M (acR K E110 (acc109.map eI ++ [eI x130]) :: da K (V.ref p120) ((eL eI) ([0, 999])) :: bagR a_bag_here :: da K (V.ref p17) ((eL eI) ([n6, n10, n14])) :: Rs) H133) => ?_)
            exact hp115 _ _ hf (M.sub (.cons 0 rfl (.cons 2 rfl (.cons 1 rfl (.tl (.refl _))))) S132)
          have S137 : M (da K (V.ref E110) ((eL eI) acc109) :: da K (V.ref p17) ((eL eI) ([n6, n10, n14])) :: bagR a_bag_here :: Rs) H135 := acR_fixL S134
          exact hk _ _ _ hf (M.sub (.cons 0 rfl (.cons 1 rfl (.tl (.refl _)))) S137)
        ·
          obtain ⟨h139, hf⟩ := hf
          refine g_next (g_nx (g_ret (g_lc (g_iRng1 (g_cons (g_var rfl (g_nil (v_itR h139 ?_))))))))
          refine lc_rng (K := K) (e' := eI) hf S25 (fun x143 acc140 E141 H149 kk142 N144 hl145 S148 hf hp146 hn147 => ?_) (fun E141 acc140 H158 hf S157 => ?_)
          ·
            refine g_name (g_wipe rfl (g_yes (v_ifT (g_call (g_cons (g_var rfl (g_cons (g_c (g_nil ?_)))))))))
            obtain ⟨h151, hf⟩ := hf
            refine u_take (S148.at 2 rfl) h151 fun n152 H154 n152l n152u (S153 : M (bagR a_bag_here :: acR K E141 (acc140.map eI) :: da K (V.ref p17) ((eL eI) ([n6, n10, n14])) :: Rs) H154) => ?_
            replace hf := hf n152 n152l n152u
            refine acR_put S153 1 rfl (EnF.all fun _ => .int _) hl145 fun H156 (S155 : M (acR K E141 (acc140.map eI ++ [eI n152]) :: bagR a_bag_here :: da K (V.ref p17) ((eL eI) ([n6, n10, n14])) :: Rs) H156) => ?_
            exact hp146 _ _ hf (M.sub (.cons 0 rfl (.cons 1 rfl (.cons 0 rfl (.refl _)))) S155)
          have S160 : M (da K (V.ref E141) ((eL eI) acc140) :: da K (V.ref p17) ((eL eI) ([n6, n10, n14])) :: bagR a_bag_here :: Rs) H158 := acR_fixL S157
          exact hk _ _ _ hf (M.sub (.cons 0 rfl (.cons 1 rfl (.tl (.refl _)))) S160)
def p_l_names (a_many : Int) (P : (List Str) → Prop) : Prop := takeD 3 fun n8 => takeD 26 fun n12 => takeD 8 fun n16 => takeD (1 + n16) fun n20 => ((-(2 ^ 62) : Int) ≤ (1 + n16) ∧ (1 + n16) < (2 ^ 62 : Int)) ∧ (rng (1 + n16)).length ≤ 100000 ∧ lcD (fun (x27 : Int) (k34 : Option Str → Prop) => takeD 26 fun n36 => ∃ x39, atS ("abcdefghijklmnopqrstuvwxyz" : Str) n36 = some x39 ∧ k34 (some x39)) (rng (1 + n16)) [] fun acc24 => if (decide (n8 = 0)) = true then (([("none" : Str), ("log" : Str), ("full" : Str), ("step" : Str), ("wide" : Str), ("a" : Str), ("ab" : Str), ("files" : Str), ("run" : Str), ("put" : Str), ("gone" : Str), ("moments" : Str)]).length + ([("none" : Str), ("log" : Str), ("full" : Str), ("step" : Str), ("wide" : Str), ("a" : Str), ("ab" : Str), ("files" : Str), ("run" : Str), ("put" : Str), ("gone" : Str), ("moments" : Str)]).length ≤ 100000 ∧ ((0 : Int) < 12) ∧ P (cutL (cutL (cat ([("none" : Str), ("log" : Str), ("full" : Str), ("step" : Str), ("wide" : Str), ("a" : Str), ("ab" : Str), ("files" : Str), ("run" : Str), ("put" : Str), ("gone" : Str), ("moments" : Str)]) ([("none" : Str), ("log" : Str), ("full" : Str), ("step" : Str), ("wide" : Str), ("a" : Str), ("ab" : Str), ("files" : Str), ("run" : Str), ("put" : Str), ("gone" : Str), ("moments" : Str)])) (some (n12 % 12)) none) none (some a_many))) else (((-(2 ^ 62) : Int) ≤ a_many ∧ a_many < (2 ^ 62 : Int)) ∧ (rng a_many).length ≤ 100000 ∧ lcD (fun (x72 : Int) (k79 : Option Str → Prop) => ((0 : Int) < 26) ∧ ∃ x87, atS ("abcdefghijklmnopqrstuvwxyz" : Str) ((n12 + x72) % 26) = some x87 ∧ ((cutL acc24 none (some n20))).length + ([x87]).length ≤ 100000 ∧ ((cat (cutL acc24 none (some n20)) ([x87]))).length + ((cutL acc24 (some (n20 + 1)) none)).length ≤ 100000 ∧ ((((cat (cat (cutL acc24 none (some n20)) ([x87])) (cutL acc24 (some (n20 + 1)) none))).map (·.length)).sum + ((cat (cat (cutL acc24 none (some n20)) ([x87])) (cutL acc24 (some (n20 + 1)) none))).length * (("" : Str)).length ≤ 16777216) ∧ k79 (some (Txt.join ("" : Str) (cat (cat (cutL acc24 none (some n20)) ([x87])) (cutL acc24 (some (n20 + 1)) none))))) (rng a_many) [] fun acc69 => P acc69)
def sp_l_names (K : PySem.W.Frag) : Sp := fun vs H Q _ => ∃ (Rs : List Res) (a_bag_here : Addr) (a_many : Int) (P : (List Str) → Prop), vs = [(V.ref a_bag_here), (V.int a_many)] ∧ M (bagR a_bag_here :: Rs) H ∧ p_l_names a_many P ∧ ∀ (r : (List Str)) (v : V) H', P r → M (da K v ((eL eS) r) :: bagR a_bag_here :: Rs) H' → Q v H'
theorem len_l_names {K : PySem.W.Frag} (vs : List V) (H : Hp) (Q : VK) (E : XK) (h : sp_l_names K vs H Q E) : vs.length = 2 := by
  obtain ⟨Rs, a_bag_here, a_many, P, rfl, _⟩ := h
  rfl
abbrev t_l_names_8 (K : PySem.W.Frag) : TS := (tSeq (tIfS (tTest (tOp (uEq K) (tVar 4) (tC (.int 0)))) (tRet (tSl (uSl K) (tSl (uSl K) (tOp (uAdd K) (tVar 3) (tVar 3)) (tPart (tOp uMod (tVar 5) (tC (.int 12)))) tNoPart) tNoPart (tPart (tVar 1)))) tNext)
  (tRet (tLc (iRng1 (tCons (tVar 1) tNil)) (gName 9) tYes (tM1 (rJoin K) (tC (.str "")) (tOp (uAdd K) (tOp (uAdd K) (tSl (uSl K) (tVar 8) tNoPart (tPart (tVar 7))) (tLst (tCons (tOp (uIx K) (tVar 2) (tOp uMod (tOp (uAdd K) (tVar 5) (tVar 9)) (tC (.int 26)))) tNil))) (tSl (uSl K) (tVar 8) (tPart (tOp (uAdd K) (tVar 7) (tC (.int 1)))) tNoPart))) [9])))
abbrev t_l_names_7 (K : PySem.W.Frag) : TS := (tSeq (tAsg (tLc (iRng1 (tCons (tVar 6) tNil)) (gName 9) tYes (tOp (uIx K) (tVar 2) (tCall (sp_l_take K) [] E0 (tCons (tVar 0) (tCons (tC (.int 26)) tNil)))) [9]) (gName 8))
  (t_l_names_8 K))
abbrev t_l_names_6 (K : PySem.W.Frag) : TS := (tSeq (tAsg (tCall (sp_l_take K) [] E0 (tCons (tVar 0) (tCons (tVar 6) tNil))) (gName 7))
  (t_l_names_7 K))
abbrev t_l_names_5 (K : PySem.W.Frag) : TS := (tSeq (tAsg (tOp (uAdd K) (tC (.int 1)) (tCall (sp_l_take K) [] E0 (tCons (tVar 0) (tCons (tC (.int 8)) tNil)))) (gName 6))
  (t_l_names_6 K))
abbrev t_l_names_4 (K : PySem.W.Frag) : TS := (tSeq (tAsg (tCall (sp_l_take K) [] E0 (tCons (tVar 0) (tCons (tC (.int 26)) tNil))) (gName 5))
  (t_l_names_5 K))
abbrev t_l_names_3 (K : PySem.W.Frag) : TS := (tSeq (tAsg (tCall (sp_l_take K) [] E0 (tCons (tVar 0) (tCons (tC (.int 3)) tNil))) (gName 4))
  (t_l_names_4 K))
abbrev t_l_names_2 (K : PySem.W.Frag) : TS := (tSeq (tAsg (tLst (tCons (tC (.str "none")) (tCons (tC (.str "log")) (tCons (tC (.str "full")) (tCons (tC (.str "step")) (tCons (tC (.str "wide")) (tCons (tC (.str "a")) (tCons (tC (.str "ab")) (tCons (tC (.str "files")) (tCons (tC (.str "run")) (tCons (tC (.str "put")) (tCons (tC (.str "gone")) (tCons (tC (.str "moments")) tNil))))))))))))) (gName 3))
  (t_l_names_3 K))
abbrev t_l_names_1 (K : PySem.W.Frag) : TS := (tSeq (tAsg (tC (.str "abcdefghijklmnopqrstuvwxyz")) (gName 2))
  (t_l_names_2 K))
abbrev t_l_names (K : PySem.W.Frag) : TS := (t_l_names_1 K)
theorem pure_l_names {K : PySem.W.Frag} (vs : List V) (H : Hp) (Q : VK) (E : XK) (h : sp_l_names K vs H Q E) : t_l_names K { nx := fun _ H' => Q .non H', rt := Q } (L2.start ["_law_bag_here", "_law_many", "_law_letters", "_law_words", "_law_pick", "_law_turn", "_law_size", "_law_at", "_law_base", "_law_k"] vs) H := by
  obtain ⟨Rs, a_bag_here, a_many, P, rfl, S0, hf, hk⟩ := h
  show t_l_names K _ [some (V.ref a_bag_here), some (V.int a_many), none, none, none, none, none, none, none, none] H
  refine g_seq (g_asg (g_c (g_nx (g_seq (g_asg (g_lst (g_cons (g_c (g_cons (g_c (g_cons (g_c (g_cons (g_c (g_cons (g_c (g_cons (g_c (g_cons (g_c (g_cons (g_c (g_cons (g_c (g_cons (g_c (g_cons (g_c (g_cons (g_c (g_nil (v_lsto (ds := ([("none" : Str), ("log" : Str), ("full" : Str), ("step" : Str), ("wide" : Str), ("a" : Str), ("ab" : Str), ("files" : Str), ("run" : Str), ("put" : Str), ("gone" : Str), ("moments" : Str)]).map eS) S0 (EnF.consA (EnF.all fun _ => .str _) (EnF.consA (EnF.all fun _ => .str _) (EnF.consA (EnF.all fun _ => .str _) (EnF.consA (EnF.all fun _ => .str _) (EnF.consA (EnF.all fun _ => .str _) (EnF.consA (EnF.all fun _ => .str _) (EnF.consA (EnF.all fun _ => .str _) (EnF.consA (EnF.all fun _ => .str _) (EnF.consA (EnF.all fun _ => .str _) (EnF.consA (EnF.all fun _ => .str _) (EnF.consA (EnF.all fun _ => .str _) (EnF.consA (EnF.all fun _ => .str _) EnF.nilA)))))))))))) (len_ok rfl) fun p1 H3 (S2 : M (acR K p1 (([("none" : Str), ("log" : Str), ("full" : Str), ("step" : Str), ("wide" : Str), ("a" : Str), ("ab" : Str), ("files" : Str), ("run" : Str), ("put" : Str), ("gone" : Str), ("moments" : Str)]).map eS) :: bagR a_bag_here :: Rs) H3) => ?_))))))))))))))))))))))))))))))))
  have S5 : M (da K (V.ref p1) ((eL eS) ([("none" : Str), ("log" : Str), ("full" : Str), ("step" : Str), ("wide" : Str), ("a" : Str), ("ab" : Str), ("files" : Str), ("run" : Str), ("put" : Str), ("gone" : Str), ("moments" : Str)])) :: bagR a_bag_here :: Rs) H3 := acR_fixL S2
  refine g_nx (g_seq (g_asg (g_call (g_cons (g_var rfl (g_cons (g_c (g_nil ?_))))))))
  obtain ⟨h7, hf⟩ := hf
  refine u_take (S5.at 1 rfl) h7 fun n8 H10 n8l n8u (S9 : M (bagR a_bag_here :: da K (V.ref p1) ((eL eS) ([("none" : Str), ("log" : Str), ("full" : Str), ("step" : Str), ("wide" : Str), ("a" : Str), ("ab" : Str), ("files" : Str), ("run" : Str), ("put" : Str), ("gone" : Str), ("moments" : Str)])) :: Rs) H10) => ?_
  replace hf := hf n8 n8l n8u
  refine g_nx (g_seq (g_asg (g_call (g_cons (g_var rfl (g_cons (g_c (g_nil ?_))))))))
  obtain ⟨h11, hf⟩ := hf
  refine u_take (S9.at 0 rfl) h11 fun n12 H14 n12l n12u (S13 : M (bagR a_bag_here :: da K (V.ref p1) ((eL eS) ([("none" : Str), ("log" : Str), ("full" : Str), ("step" : Str), ("wide" : Str), ("a" : Str), ("ab" : Str), ("files" : Str), ("run" : Str), ("put" : Str), ("gone" : Str), ("moments" : Str)])) :: Rs) H14) => ?_
  replace hf := hf n12 n12l n12u
  refine g_nx (g_seq (g_asg (g_op (g_c (g_call (g_cons (g_var rfl (g_cons (g_c (g_nil ?_))))))))))
  obtain ⟨h15, hf⟩ := hf
  refine u_take (S13.at 0 rfl) h15 fun n16 H18 n16l n16u (S17 : M (bagR a_bag_here :: da K (V.ref p1) ((eL eS) ([("none" : Str), ("log" : Str), ("full" : Str), ("step" : Str), ("wide" : Str), ("a" : Str), ("ab" : Str), ("files" : Str), ("run" : Str), ("put" : Str), ("gone" : Str), ("moments" : Str)])) :: Rs) H18) => ?_
  replace hf := hf n16 n16l n16u
  refine v_add (g_nx (g_seq (g_asg (g_call (g_cons (g_var rfl (g_cons (g_var rfl (g_nil ?_)))))))))
  obtain ⟨h19, hf⟩ := hf
  refine u_take (S17.at 0 rfl) h19 fun n20 H22 n20l n20u (S21 : M (bagR a_bag_here :: da K (V.ref p1) ((eL eS) ([("none" : Str), ("log" : Str), ("full" : Str), ("step" : Str), ("wide" : Str), ("a" : Str), ("ab" : Str), ("files" : Str), ("run" : Str), ("put" : Str), ("gone" : Str), ("moments" : Str)])) :: Rs) H22) => ?_
  replace hf := hf n20 n20l n20u
  obtain ⟨h23, hf⟩ := hf
  refine g_nx (g_seq (g_asg (g_lc (g_iRng1 (g_cons (g_var rfl (g_nil (v_itR h23 ?_))))))))
  refine lc_rng (K := K) (e' := eS) hf S21 (fun x27 acc24 E25 H33 kk26 N28 hl29 S32 hf hp30 hn31 => ?_) (fun E25 acc24 H44 hf S43 => ?_)
  ·
    refine g_name (g_wipe rfl (g_yes (v_ifT (g_op (g_var rfl (g_call (g_cons (g_var rfl (g_cons (g_c (g_nil ?_)))))))))))
    obtain ⟨h35, hf⟩ := hf
    refine u_take (S32.at 1 rfl) h35 fun n36 H38 n36l n36u (S37 : M (bagR a_bag_here :: acR K E25 (acc24.map eS) :: da K (V.ref p1) ((eL eS) ([("none" : Str), ("log" : Str), ("full" : Str), ("step" : Str), ("wide" : Str), ("a" : Str), ("ab" : Str), ("files" : Str), ("run" : Str), ("put" : Str), ("gone" : Str), ("moments" : Str)])) :: Rs) H38) => ?_
    replace hf := hf n36 n36l n36u
    obtain ⟨x39, h40, hf⟩ := hf
    refine v_ixs h40 (acR_put S37 1 rfl (EnF.all fun _ => .str _) hl29 fun H42 (S41 : M (acR K E25 (acc24.map eS ++ [eS x39]) :: bagR a_bag_here :: da K (V.ref p1) ((eL eS) ([("none" : Str), ("log" : Str), ("full" : Str), ("step" : Str), ("wide" : Str), ("a" : Str), ("ab" : Str), ("files" : Str), ("run" : Str), ("put" : Str), ("gone" : Str), ("moments" : Str)])) :: Rs) H42) => ?_)
    exact hp30 _ _ hf (M.sub (.cons 0 rfl (.cons 0 rfl (.cons 0 rfl (.refl _)))) S41)
  have S46 : M (da K (V.ref E25) ((eL eS) acc24) :: bagR a_bag_here :: da K (V.ref p1) ((eL eS) ([("none" : Str), ("log" : Str), ("full" : Str), ("step" : Str), ("wide" : Str), ("a" : Str), ("ab" : Str), ("files" : Str), ("run" : Str), ("put" : Str), ("gone" : Str), ("moments" : Str)])) :: Rs) H44 := acR_fixL S43
  refine g_nx (g_seq (g_if (g_test (g_op (g_var rfl (g_c (v_eqI (g_bl (v_iff hf (fun _ hf => ?_) (fun _ hf => ?_))))))))))
  ·
    refine g_ret (g_sl (g_sl (g_op (g_var rfl (g_var rfl ?_)))))
    obtain ⟨h48, hf⟩ := hf
    refine v_catN flS S46 (M.gotA S46 2 rfl) (M.gotA S46 2 rfl) h48 fun p49 H51 (S50 : M (acR K p49 ((cat ([("none" : Str), ("log" : Str), ("full" : Str), ("step" : Str), ("wide" : Str), ("a" : Str), ("ab" : Str), ("files" : Str), ("run" : Str), ("put" : Str), ("gone" : Str), ("moments" : Str)]) ([("none" : Str), ("log" : Str), ("full" : Str), ("step" : Str), ("wide" : Str), ("a" : Str), ("ab" : Str), ("files" : Str), ("run" : Str), ("put" : Str), ("gone" : Str), ("moments" : Str)])).map eS) :: da K (V.ref E25) ((eL eS) acc24) :: bagR a_bag_here :: da K (V.ref p1) ((eL eS) ([("none" : Str), ("log" : Str), ("full" : Str), ("step" : Str), ("wide" : Str), ("a" : Str), ("ab" : Str), ("files" : Str), ("run" : Str), ("put" : Str), ("gone" : Str), ("moments" : Str)])) :: Rs) H51) => ?_
    have S53 : M (da K (V.ref p49) ((eL eS) (cat ([("none" : Str), ("log" : Str), ("full" : Str), ("step" : Str), ("wide" : Str), ("a" : Str), ("ab" : Str), ("files" : Str), ("run" : Str), ("put" : Str), ("gone" : Str), ("moments" : Str)]) ([("none" : Str), ("log" : Str), ("full" : Str), ("step" : Str), ("wide" : Str), ("a" : Str), ("ab" : Str), ("files" : Str), ("run" : Str), ("put" : Str), ("gone" : Str), ("moments" : Str)]))) :: da K (V.ref E25) ((eL eS) acc24) :: bagR a_bag_here :: da K (V.ref p1) ((eL eS) ([("none" : Str), ("log" : Str), ("full" : Str), ("step" : Str), ("wide" : Str), ("a" : Str), ("ab" : Str), ("files" : Str), ("run" : Str), ("put" : Str), ("gone" : Str), ("moments" : Str)])) :: Rs) H51 := acR_fixL S50
    obtain ⟨h55, hf⟩ := hf
    refine g_part (g_op (g_var rfl (g_c (v_mod h55 (g_int (g_noPart (v_slN flS S53 (M.gotA S53 0 rfl) fun p56 H58 (S57 : M (acR K p56 ((cutL (cat ([("none" : Str), ("log" : Str), ("full" : Str), ("step" : Str), ("wide" : Str), ("a" : Str), ("ab" : Str), ("files" : Str), ("run" : Str), ("put" : Str), ("gone" : Str), ("moments" : Str)]) ([("none" : Str), ("log" : Str), ("full" : Str), ("step" : Str), ("wide" : Str), ("a" : Str), ("ab" : Str), ("files" : Str), ("run" : Str), ("put" : Str), ("gone" : Str), ("moments" : Str)])) (some (n12 % 12)) none).map eS) :: da K (V.ref p49) ((eL eS) (cat ([("none" : Str), ("log" : Str), ("full" : Str), ("step" : Str), ("wide" : Str), ("a" : Str), ("ab" : Str), ("files" : Str), ("run" : Str), ("put" : Str), ("gone" : Str), ("moments" : Str)]) ([("none" : Str), ("log" : Str), ("full" : Str), ("step" : Str), ("wide" : Str), ("a" : Str), ("ab" : Str), ("files" : Str), ("run" : Str), ("put" : Str), ("gone" : Str), ("moments" : Str)]))) :: da K (V.ref E25) ((eL eS) acc24) :: bagR a_bag_here :: da K (V.ref p1) ((eL eS) ([("none" : Str), ("log" : Str), ("full" : Str), ("step" : Str), ("wide" : Str), ("a" : Str), ("ab" : Str), ("files" : Str), ("run" : Str), ("put" : Str), ("gone" : Str), ("moments" : Str)])) :: Rs) H58) => ?_)))))))
    have S60 : M (da K (V.ref p56) ((eL eS) (cutL (cat ([("none" : Str), ("log" : Str), ("full" : Str), ("step" : Str), ("wide" : Str), ("a" : Str), ("ab" : Str), ("files" : Str), ("run" : Str), ("put" : Str), ("gone" : Str), ("moments" : Str)]) ([("none" : Str), ("log" : Str), ("full" : Str), ("step" : Str), ("wide" : Str), ("a" : Str), ("ab" : Str), ("files" : Str), ("run" : Str), ("put" : Str), ("gone" : Str), ("moments" : Str)])) (some (n12 % 12)) none)) :: da K (V.ref p49) ((eL eS) (cat ([("none" : Str), ("log" : Str), ("full" : Str), ("step" : Str), ("wide" : Str), ("a" : Str), ("ab" : Str), ("files" : Str), ("run" : Str), ("put" : Str), ("gone" : Str), ("moments" : Str)]) ([("none" : Str), ("log" : Str), ("full" : Str), ("step" : Str), ("wide" : Str), ("a" : Str), ("ab" : Str), ("files" : Str), ("run" : Str), ("put" : Str), ("gone" : Str), ("moments" : Str)]))) :: da K (V.ref E25) ((eL eS) acc24) :: bagR a_bag_here :: da K (V.ref p1) ((eL eS) ([("none" : Str), ("log" : Str), ("full" : Str), ("step" : Str), ("wide" : Str), ("a" : Str), ("ab" : Str), ("files" : Str), ("run" : Str), ("put" : Str), ("gone" : Str), ("moments" : Str)])) :: Rs) H58 := acR_fixL S57
    refine g_noPart (g_part (g_var rfl (g_int (v_slN flS S60 (M.gotA S60 0 rfl) fun p62 H64 (S63 : M (acR K p62 ((cutL (cutL (cat ([("none" : Str), ("log" : Str), ("full" : Str), ("step" : Str), ("wide" : Str), ("a" : Str), ("ab" : Str), ("files" : Str), ("run" : Str), ("put" : Str), ("gone" : Str), ("moments" : Str)]) ([("none" : Str), ("log" : Str), ("full" : Str), ("step" : Str), ("wide" : Str), ("a" : Str), ("ab" : Str), ("files" : Str), ("run" : Str), ("put" : Str), ("gone" : Str), ("moments" : Str)])) (some (n12 % 12)) none) none (some a_many)).map eS) :: da K (V.ref p56) ((eL eS) (cutL (cat ([("none" : Str), ("log" : Str), ("full" : Str), ("step" : Str), ("wide" : Str), ("a" : Str), ("ab" : Str), ("files" : Str), ("run" : Str), ("put" : Str), ("gone" : Str), ("moments" : Str)]) ([("none" : Str), ("log" : Str), ("full" : Str), ("step" : Str), ("wide" : Str), ("a" : Str), ("ab" : Str), ("files" : Str), ("run" : Str), ("put" : Str), ("gone" : Str), ("moments" : Str)])) (some (n12 % 12)) none)) :: da K (V.ref p49) ((eL eS) (cat ([("none" : Str), ("log" : Str), ("full" : Str), ("step" : Str), ("wide" : Str), ("a" : Str), ("ab" : Str), ("files" : Str), ("run" : Str), ("put" : Str), ("gone" : Str), ("moments" : Str)]) ([("none" : Str), ("log" : Str), ("full" : Str), ("step" : Str), ("wide" : Str), ("a" : Str), ("ab" : Str), ("files" : Str), ("run" : Str), ("put" : Str), ("gone" : Str), ("moments" : Str)]))) :: da K (V.ref E25) ((eL eS) acc24) :: bagR a_bag_here :: da K (V.ref p1) ((eL eS) ([("none" : Str), ("log" : Str), ("full" : Str), ("step" : Str), ("wide" : Str), ("a" : Str), ("ab" : Str), ("files" : Str), ("run" : Str), ("put" : Str), ("gone" : Str), ("moments" : Str)])) :: Rs) H64) => ?_))))
    have S66 : M (da K (V.ref p62) ((eL eS) (cutL (cutL (cat ([("none" : Str), ("log" : Str), ("full" : Str), ("step" : Str), ("wide" : Str), ("a" : Str), ("ab" : Str), ("files" : Str), ("run" : Str), ("put" : Str), ("gone" : Str), ("moments" : Str)]) ([("none" : Str), ("log" : Str), ("full" : Str), ("step" : Str), ("wide" : Str), ("a" : Str), ("ab" : Str), ("files" : Str), ("run" : Str), ("put" : Str), ("gone" : Str), ("moments" : Str)])) (some (n12 % 12)) none) none (some a_many))) :: da K (V.ref p56) ((eL eS) (cutL (cat ([("none" : Str), ("log" : Str), ("full" : Str), ("step" : Str), ("wide" : Str), ("a" : Str), ("ab" : Str), ("files" : Str), ("run" : Str), ("put" : Str), ("gone" : Str), ("moments" : Str)]) ([("none" : Str), ("log" : Str), ("full" : Str), ("step" : Str), ("wide" : Str), ("a" : Str), ("ab" : Str), ("files" : Str), ("run" : Str), ("put" : Str), ("gone" : Str), ("moments" : Str)])) (some (n12 % 12)) none)) :: da K (V.ref p49) ((eL eS) (cat ([("none" : Str), ("log" : Str), ("full" : Str), ("step" : Str), ("wide" : Str), ("a" : Str), ("ab" : Str), ("files" : Str), ("run" : Str), ("put" : Str), ("gone" : Str), ("moments" : Str)]) ([("none" : Str), ("log" : Str), ("full" : Str), ("step" : Str), ("wide" : Str), ("a" : Str), ("ab" : Str), ("files" : Str), ("run" : Str), ("put" : Str), ("gone" : Str), ("moments" : Str)]))) :: da K (V.ref E25) ((eL eS) acc24) :: bagR a_bag_here :: da K (V.ref p1) ((eL eS) ([("none" : Str), ("log" : Str), ("full" : Str), ("step" : Str), ("wide" : Str), ("a" : Str), ("ab" : Str), ("files" : Str), ("run" : Str), ("put" : Str), ("gone" : Str), ("moments" : Str)])) :: Rs) H64 := acR_fixL S63
    exact hk _ _ _ hf (M.sub (.cons 0 rfl (.cons 3 rfl (.tl (.tl (.tl (.tl (.refl _))))))) S66)
  ·
    obtain ⟨h68, hf⟩ := hf
    refine g_next (g_nx (g_ret (g_lc (g_iRng1 (g_cons (g_var rfl (g_nil (v_itR h68 ?_))))))))
    refine lc_rng (K := K) (e' := eS) hf S46 (fun x72 acc69 E70 H78 kk71 N73 hl74 S77 hf hp75 hn76 => ?_) (fun E70 acc69 H119 hf S118 => ?_)
    ·
      refine g_name (g_wipe rfl (g_yes (v_ifT (g_m1 (g_c (v_isS (g_op (g_op (g_sl (g_var rfl (g_noPart (g_part (g_var rfl (g_int (v_slN flS S77 (M.gotA S77 1 rfl) fun p80 H82 (S81 : M (acR K p80 ((cutL acc24 none (some n20)).map eS) :: acR K E70 (acc69.map eS) :: da K (V.ref E25) ((eL eS) acc24) :: bagR a_bag_here :: da K (V.ref p1) ((eL eS) ([("none" : Str), ("log" : Str), ("full" : Str), ("step" : Str), ("wide" : Str), ("a" : Str), ("ab" : Str), ("files" : Str), ("run" : Str), ("put" : Str), ("gone" : Str), ("moments" : Str)])) :: Rs) H82) => ?_)))))))))))))))
      have S84 : M (da K (V.ref p80) ((eL eS) (cutL acc24 none (some n20))) :: acR K E70 (acc69.map eS) :: da K (V.ref E25) ((eL eS) acc24) :: bagR a_bag_here :: da K (V.ref p1) ((eL eS) ([("none" : Str), ("log" : Str), ("full" : Str), ("step" : Str), ("wide" : Str), ("a" : Str), ("ab" : Str), ("files" : Str), ("run" : Str), ("put" : Str), ("gone" : Str), ("moments" : Str)])) :: Rs) H82 := acR_fixL S81
      obtain ⟨h86, hf⟩ := hf
      obtain ⟨x87, h88, hf⟩ := hf
      refine g_lst (g_cons (g_op (g_var rfl (g_op (g_op (g_var rfl (g_var rfl (v_add (g_c (v_mod h86 (v_ixs h88 (g_nil (v_lsto (ds := ([x87]).map eS) S84 (EnF.consA (EnF.all fun _ => .str _) EnF.nilA) (len_ok rfl) fun p89 H91 (S90 : M (acR K p89 (([x87]).map eS) :: da K (V.ref p80) ((eL eS) (cutL acc24 none (some n20))) :: acR K E70 (acc69.map eS) :: da K (V.ref E25) ((eL eS) acc24) :: bagR a_bag_here :: da K (V.ref p1) ((eL eS) ([("none" : Str), ("log" : Str), ("full" : Str), ("step" : Str), ("wide" : Str), ("a" : Str), ("ab" : Str), ("files" : Str), ("run" : Str), ("put" : Str), ("gone" : Str), ("moments" : Str)])) :: Rs) H91) => ?_)))))))))))))
      have S93 : M (da K (V.ref p89) ((eL eS) ([x87])) :: da K (V.ref p80) ((eL eS) (cutL acc24 none (some n20))) :: acR K E70 (acc69.map eS) :: da K (V.ref E25) ((eL eS) acc24) :: bagR a_bag_here :: da K (V.ref p1) ((eL eS) ([("none" : Str), ("log" : Str), ("full" : Str), ("step" : Str), ("wide" : Str), ("a" : Str), ("ab" : Str), ("files" : Str), ("run" : Str), ("put" : Str), ("gone" : Str), ("moments" : Str)])) :: Rs) H91 := acR_fixL S90
      obtain ⟨h95, hf⟩ := hf
      refine v_catN flS S93 (M.gotA S93 1 rfl) (M.gotA S93 0 rfl) h95 fun p96 H98 (S97 : M (acR K p96 ((cat (cutL acc24 none (some n20)) ([x87])).map eS) :: da K (V.ref p89) ((eL eS) ([x87])) :: da K (V.ref p80) ((eL eS) (cutL acc24 none (some n20))) :: acR K E70 (acc69.map eS) :: da K (V.ref E25) ((eL eS) acc24) :: bagR a_bag_here :: da K (V.ref p1) ((eL eS) ([("none" : Str), ("log" : Str), ("full" : Str), ("step" : Str), ("wide" : Str), ("a" : Str), ("ab" : Str), ("files" : Str), ("run" : Str), ("put" : Str), ("gone" : Str), ("moments" : Str)])) :: Rs) H98) => ?_
      have S100 : M (da K (V.ref p96) ((eL eS) (cat (cutL acc24 none (some n20)) ([x87]))) :: da K (V.ref p89) ((eL eS) ([x87])) :: da K (V.ref p80) ((eL eS) (cutL acc24 none (some n20))) :: acR K E70 (acc69.map eS) :: da K (V.ref E25) ((eL eS) acc24) :: bagR a_bag_here :: da K (V.ref p1) ((eL eS) ([("none" : Str), ("log" : Str), ("full" : Str), ("step" : Str), ("wide" : Str), ("a" : Str), ("ab" : Str), ("files" : Str), ("run" : Str), ("put" : Str), ("gone" : Str), ("moments" : Str)])) :: Rs) H98 := acR_fixL S97
      refine g_sl (g_var rfl (g_part (g_op (g_var rfl (g_c (v_add (g_int (g_noPart (v_slN flS S100 (M.gotA S100 4 rfl) fun p102 H104 (S103 : M (acR K p102 ((cutL acc24 (some (n20 + 1)) none).map eS) :: da K (V.ref p96) ((eL eS) (cat (cutL acc24 none (some n20)) ([x87]))) :: da K (V.ref p89) ((eL eS) ([x87])) :: da K (V.ref p80) ((eL eS) (cutL acc24 none (some n20))) :: acR K E70 (acc69.map eS) :: da K (V.ref E25) ((eL eS) acc24) :: bagR a_bag_here :: da K (V.ref p1) ((eL eS) ([("none" : Str), ("log" : Str), ("full" : Str), ("step" : Str), ("wide" : Str), ("a" : Str), ("ab" : Str), ("files" : Str), ("run" : Str), ("put" : Str), ("gone" : Str), ("moments" : Str)])) :: Rs) H104) => ?_)))))))))
      have S106 : M (da K (V.ref p102) ((eL eS) (cutL acc24 (some (n20 + 1)) none)) :: da K (V.ref p96) ((eL eS) (cat (cutL acc24 none (some n20)) ([x87]))) :: da K (V.ref p89) ((eL eS) ([x87])) :: da K (V.ref p80) ((eL eS) (cutL acc24 none (some n20))) :: acR K E70 (acc69.map eS) :: da K (V.ref E25) ((eL eS) acc24) :: bagR a_bag_here :: da K (V.ref p1) ((eL eS) ([("none" : Str), ("log" : Str), ("full" : Str), ("step" : Str), ("wide" : Str), ("a" : Str), ("ab" : Str), ("files" : Str), ("run" : Str), ("put" : Str), ("gone" : Str), ("moments" : Str)])) :: Rs) H104 := acR_fixL S103
      obtain ⟨h108, hf⟩ := hf
      refine v_catN flS S106 (M.gotA S106 1 rfl) (M.gotA S106 0 rfl) h108 fun p109 H111 (S110 : M (acR K p109 ((cat (cat (cutL acc24 none (some n20)) ([x87])) (cutL acc24 (some (n20 + 1)) none)).map eS) :: da K (V.ref p102) ((eL eS) (cutL acc24 (some (n20 + 1)) none)) :: da K (V.ref p96) ((eL eS) (cat (cutL acc24 none (some n20)) ([x87]))) :: da K (V.ref p89) ((eL eS) ([x87])) :: da K (V.ref p80) ((eL eS) (cutL acc24 none (some n20))) :: acR K E70 (acc69.map eS) :: da K (V.ref E25) ((eL eS) acc24) :: bagR a_bag_here :: da K (V.ref p1) ((eL eS) ([("none" : Str), ("log" : Str), ("full" : Str), ("step" : Str), ("wide" : Str), ("a" : Str), ("ab" : Str), ("files" : Str), ("run" : Str), ("put" : Str), ("gone" : Str), ("moments" : Str)])) :: Rs) H111) => ?_
      have S113 : M (da K (V.ref p109) ((eL eS) (cat (cat (cutL acc24 none (some n20)) ([x87])) (cutL acc24 (some (n20 + 1)) none))) :: da K (V.ref p102) ((eL eS) (cutL acc24 (some (n20 + 1)) none)) :: da K (V.ref p96) ((eL eS) (cat (cutL acc24 none (some n20)) ([x87]))) :: da K (V.ref p89) ((eL eS) ([x87])) :: da K (V.ref p80) ((eL eS) (cutL acc24 none (some n20))) :: acR K E70 (acc69.map eS) :: da K (V.ref E25) ((eL eS) acc24) :: bagR a_bag_here :: da K (V.ref p1) ((eL eS) ([("none" : Str), ("log" : Str), ("full" : Str), ("step" : Str), ("wide" : Str), ("a" : Str), ("ab" : Str), ("files" : Str), ("run" : Str), ("put" : Str), ("gone" : Str), ("moments" : Str)])) :: Rs) H111 := acR_fixL S110
      obtain ⟨h115, hf⟩ := hf
      refine v_join (M.gotA S113 0 rfl) h115 (acR_put S113 5 rfl (EnF.all fun _ => .str _) hl74 fun H117 (S116 : M (acR K E70 (acc69.map eS ++ [eS (Txt.join ("" : Str) (cat (cat (cutL acc24 none (some n20)) ([x87])) (cutL acc24 (some (n20 + 1)) none)))]) :: da K (V.ref p109) ((eL eS) (cat (cat (cutL acc24 none (some n20)) ([x87])) (cutL acc24 (some (n20 + 1)) none))) :: da K (V.ref p102) ((eL eS) (cutL acc24 (some (n20 + 1)) none)) :: da K (V.ref p96) ((eL eS) (cat (cutL acc24 none (some n20)) ([x87]))) :: da K (V.ref p89) ((eL eS) ([x87])) :: da K (V.ref p80) ((eL eS) (cutL acc24 none (some n20))) :: da K (V.ref E25) ((eL eS) acc24) :: bagR a_bag_here :: da K (V.ref p1) ((eL eS) ([("none" : Str), ("log" : Str), ("full" : Str), ("step" : Str), ("wide" : Str), ("a" : Str), ("ab" : Str), ("files" : Str), ("run" : Str), ("put" : Str), ("gone" : Str), ("moments" : Str)])) :: Rs) H117) => ?_)
      exact hp75 _ _ hf (M.sub (.cons 0 rfl (.cons 5 rfl (.cons 5 rfl (.cons 5 rfl (.tl (.tl (.tl (.tl (.tl (.refl _)))))))))) S116)
    have S121 : M (da K (V.ref E70) ((eL eS) acc69) :: da K (V.ref E25) ((eL eS) acc24) :: bagR a_bag_here :: da K (V.ref p1) ((eL eS) ([("none" : Str), ("log" : Str), ("full" : Str), ("step" : Str), ("wide" : Str), ("a" : Str), ("ab" : Str), ("files" : Str), ("run" : Str), ("put" : Str), ("gone" : Str), ("moments" : Str)])) :: Rs) H119 := acR_fixL S118
    exact hk _ _ _ hf (M.sub (.cons 0 rfl (.cons 1 rfl (.tl (.tl (.refl _))))) S121)
def p_is_whole (a_thing : Int) (P : Bool → Prop) : Prop := P (true && (!false))
def sp_is_whole (K : PySem.W.Frag) : Sp := fun vs H Q _ => ∃ (Rs : List Res) (a_thing : Int) (P : Bool → Prop), vs = [(V.int a_thing)] ∧ M (Rs) H ∧ p_is_whole a_thing P ∧ ∀ (r : Bool) H', P r → M (Rs) H' → Q (V.bl r) H'
theorem len_is_whole {K : PySem.W.Frag} (vs : List V) (H : Hp) (Q : VK) (E : XK) (h : sp_is_whole K vs H Q E) : vs.length = 1 := by
  obtain ⟨Rs, a_thing, P, rfl, _⟩ := h
  rfl
abbrev t_is_whole (K : PySem.W.Frag) : TS := (tRet (tAndV (tCB (rIsi K) (tCons (tVar 0) (tCons (tC (.ty "int")) tNil))) (tNotV (tCB (rIsi K) (tCons (tVar 0) (tCons (tC (.ty "bool")) tNil))))))
theorem pure_is_whole {K : PySem.W.Frag} (vs : List V) (H : Hp) (Q : VK) (E : XK) (h : sp_is_whole K vs H Q E) : t_is_whole K { nx := fun _ H' => Q .non H', rt := Q } (L2.start ["thing"] vs) H := by
  obtain ⟨Rs, a_thing, P, rfl, S0, hf, hk⟩ := h
  show t_is_whole K _ [some (V.int a_thing)] H
  refine g_ret (g_andVP (c1 := true) (c2 := (!false)) (fun _ hq => ?_) (fun _ hq => ?_) ?_)
  ·
    refine g_cb (g_cons (g_var rfl (g_cons (g_c (g_nil (v_isq (.int _) (by decide) (b := true) rfl ?_))))))
    exact hq
  ·
    refine g_notV (g_cb (g_cons (g_var rfl (g_cons (g_c (g_nil (v_isq (.int _) (by decide) (b := false) rfl (g_bl ?_))))))))
    exact hq
  exact hk _ _ hf (M.sub (.refl _) S0)
def p_is_sign (a_thing : Int) (P : Bool → Prop) : Prop := jn (fun k5 => p_is_whole a_thing fun x7 => if x7 = true then (k5 ((decide (0 ≤ a_thing)) && (decide (a_thing ≤ 999)))) else (k5 false)) fun c1 => P c1
def sp_is_sign (K : PySem.W.Frag) : Sp := fun vs H Q _ => ∃ (Rs : List Res) (a_thing : Int) (P : Bool → Prop), vs = [(V.int a_thing)] ∧ M (Rs) H ∧ p_is_sign a_thing P ∧ ∀ (r : Bool) H', P r → M (Rs) H' → Q (V.bl r) H'
theorem len_is_sign {K : PySem.W.Frag} (vs : List V) (H : Hp) (Q : VK) (E : XK) (h : sp_is_sign K vs H Q E) : vs.length = 1 := by
  obtain ⟨Rs, a_thing, P, rfl, _⟩ := h
  rfl
abbrev t_is_sign (K : PySem.W.Frag) : TS := (tRet (tAndV (tCall (sp_is_whole K) [] E0 (tCons (tVar 0) tNil)) (tChain uLe uLe (tC (.int 0)) (tVar 0) (tC (.int 999)))))
theorem pure_is_sign {K : PySem.W.Frag} (vs : List V) (H : Hp) (Q : VK) (E : XK) (h : sp_is_sign K vs H Q E) : t_is_sign K { nx := fun _ H' => Q .non H', rt := Q } (L2.start ["thing"] vs) H := by
  obtain ⟨Rs, a_thing, P, rfl, S0, hf, hk⟩ := h
  show t_is_sign K _ [some (V.int a_thing)] H
  refine g_ret ?_
  refine te_cut hf (fun H => M (Rs) H) (fun kk2 P3 hP4 hf => ?_) ?_
  ·
    refine g_andV (g_call (g_cons (g_var rfl (g_nil (⟨_, _, _, rfl, S0, hf, fun x7 H9 hf (S8 : M (Rs) H9) => ?_⟩)))))
    refine g_bl (v_iff hf (fun _ hf => ?_) (fun _ hf => ?_))
    ·
      refine g_chainP (c1 := (decide (0 ≤ a_thing))) (c2 := (decide (a_thing ≤ 999))) (fun _ hq => ?_) (fun _ hq => ?_) (fun _ hq => v_le hq) (fun _ hq => ?_) (fun _ hq => v_le hq) ?_
      ·
        refine g_c ?_
        exact hq
      ·
        refine g_var rfl ?_
        exact hq
      ·
        refine g_c ?_
        exact hq
      exact hP4 _ _ hf (M.sub (.refl _) S8)
    ·
      exact hP4 _ _ hf (M.sub (.refl _) S8)
  intro c1 H12 hf S11
  exact hk _ _ hf (M.sub (.refl _) S11)
def p_are_signs (a_thing : (List Int)) (a_fewest : Int) (a_most : Int) (P : Bool → Prop) : Prop := if ((!true) || (!((decide (a_fewest ≤ ((a_thing).length : Int))) && (decide (((a_thing).length : Int) ≤ a_most))))) = true then (P false) else (forD (fun (x4 : Int) (s1 : Unit) (k2 : (Unit) → Prop) => p_is_sign x4 fun x8 => if (!x8) = true then (P false) else (k2 ())) a_thing () fun s1 => P true)
def sp_are_signs (K : PySem.W.Frag) : Sp := fun vs H Q _ => ∃ (Rs : List Res) (R_a_thing : Res) (v_a_thing : V) (a_thing : (List Int)) (a_fewest : Int) (a_most : Int) (P : Bool → Prop), vs = [v_a_thing, (V.int a_fewest), (V.int a_most)] ∧ Brw R_a_thing K v_a_thing ((eL eI) a_thing) ∧ M (R_a_thing :: Rs) H ∧ p_are_signs a_thing a_fewest a_most P ∧ ∀ (r : Bool) H', P r → M (R_a_thing :: Rs) H' → Q (V.bl r) H'
theorem len_are_signs {K : PySem.W.Frag} (vs : List V) (H : Hp) (Q : VK) (E : XK) (h : sp_are_signs K vs H Q E) : vs.length = 3 := by
  obtain ⟨Rs, R_a_thing, v_a_thing, a_thing, a_fewest, a_most, P, rfl, _⟩ := h
  rfl
abbrev t_are_signs_4 (K : PySem.W.Frag) : TS := (tIfS (tNot (tB (tCall (sp_is_sign K) [] E0 (tCons (tVar 3) tNil)))) (tRet (tC (.bl false))) tNext)
abbrev t_are_signs_3 (K : PySem.W.Frag) : TS := (tSeq (tFor (iList K (tVar 0)) (gName 3) (t_are_signs_4 K))
  (tRet (tC (.bl true))))
abbrev t_are_signs_1 (K : PySem.W.Frag) : TS := (tSeq (tIfS (tOr (tNot (tB (tCB (rIsi K) (tCons (tVar 0) (tCons (tC (.ty "list")) tNil))))) (tNot (tTest (tChain uLe uLe (tVar 1) (tCB (uLen K) (tCons (tVar 0) tNil)) (tVar 2))))) (tRet (tC (.bl false))) tNext)
  (t_are_signs_3 K))
abbrev t_are_signs (K : PySem.W.Frag) : TS := (t_are_signs_1 K)
theorem pure_are_signs {K : PySem.W.Frag} (vs : List V) (H : Hp) (Q : VK) (E : XK) (h : sp_are_signs K vs H Q E) : t_are_signs K { nx := fun _ H' => Q .non H', rt := Q } (L2.start ["thing", "fewest", "most", "sign"] vs) H := by
  obtain ⟨Rs, R_a_thing, v_a_thing, a_thing, a_fewest, a_most, P, rfl, h_a_thing, S0, hf, hk⟩ := h
  show t_are_signs K _ [some v_a_thing, some (V.int a_fewest), some (V.int a_most), none] H
  refine g_seq (g_if (g_orP (c1 := (!true)) (c2 := (!((decide (a_fewest ≤ ((a_thing).length : Int))) && (decide (((a_thing).length : Int) ≤ a_most))))) (fun _ hq => ?_) (fun _ hq => ?_) ?_))
  ·
    refine g_not (g_B (g_cb (g_cons (g_var rfl (g_cons (g_c (g_nil (v_isq (h_a_thing _ _ (M.at S0 0 rfl)) (by decide) (b := true) rfl (g_bl ?_)))))))))
    exact hq
  ·
    refine g_not (g_test (g_chainP (c1 := (decide (a_fewest ≤ ((a_thing).length : Int)))) (c2 := (decide (((a_thing).length : Int) ≤ a_most))) (fun _ hq => ?_) (fun _ hq => ?_) (fun _ hq => v_le hq) (fun _ hq => ?_) (fun _ hq => v_le hq) ?_))
    ·
      refine g_var rfl ?_
      exact hq
    ·
      refine g_cb (g_cons (g_var rfl (g_nil (v_lenN (h_a_thing _ _ (M.at S0 0 rfl)) ?_))))
      exact hq
    ·
      refine g_var rfl ?_
      exact hq
    refine g_bl ?_
    exact hq
  refine v_iff hf (fun _ hf => ?_) (fun _ hf => ?_)
  ·
    refine g_ret (g_c ?_)
    exact hk _ _ hf (M.sub (.cons 0 rfl (.refl _)) S0)
  ·
    refine g_next (g_nx (g_seq (g_for (g_iList (g_var rfl ?_)))))
    refine for_N flI (K := K) (β := Unit) hf (fun (s1 : Unit) σ H' => ∃ (o5 : Option V), σ = [some v_a_thing, some (V.int a_fewest), some (V.int a_most), o5] ∧ M (R_a_thing :: Rs) H') ⟨_, rfl, (M.sub (.cons 0 rfl (.refl _)) S0)⟩ (fun _ _ _ h => by obtain ⟨_, _, S⟩ := h; exact h_a_thing _ _ (S.at 0 rfl)) ?_ ?_
    ·
      rintro x4 s1 _ H7 kk3 ⟨o5, rfl, S6⟩ hf
      refine g_name (g_if (g_not (g_B (g_call (g_cons (g_var rfl (g_nil (⟨_, _, _, rfl, S6, hf, fun x8 H10 hf (S9 : M (R_a_thing :: Rs) H10) => ?_⟩))))))))
      refine g_bl (v_iff hf (fun _ hf => ?_) (fun _ hf => ?_))
      ·
        refine g_ret (g_c ?_)
        exact hk _ _ hf (M.sub (.cons 0 rfl (.refl _)) S9)
      ·
        refine g_next ?_
        exact ⟨_, hf, _, rfl, (M.sub (.cons 0 rfl (.refl _)) S9)⟩
    rintro s1 _ H13 hf ⟨o5, rfl, S12⟩
    refine g_nx (g_ret (g_c ?_))
    exact hk _ _ hf (M.sub (.cons 0 rfl (.refl _)) S12)
def p_is_content (a_thing : (List Int)) (P : Bool → Prop) : Prop := p_are_signs a_thing 0 48 fun x1 => P x1
def sp_is_content (K : PySem.W.Frag) : Sp := fun vs H Q _ => ∃ (Rs : List Res) (R_a_thing : Res) (v_a_thing : V) (a_thing : (List Int)) (P : Bool → Prop), vs = [v_a_thing] ∧ Brw R_a_thing K v_a_thing ((eL eI) a_thing) ∧ M (R_a_thing :: Rs) H ∧ p_is_content a_thing P ∧ ∀ (r : Bool) H', P r → M (R_a_thing :: Rs) H' → Q (V.bl r) H'
theorem len_is_content {K : PySem.W.Frag} (vs : List V) (H : Hp) (Q : VK) (E : XK) (h : sp_is_content K vs H Q E) : vs.length = 1 := by
  obtain ⟨Rs, R_a_thing, v_a_thing, a_thing, P, rfl, _⟩ := h
  rfl
abbrev t_is_content (K : PySem.W.Frag) : TS := (tRet (tCall (sp_are_signs K) [] E0 (tCons (tVar 0) (tCons (tC (.int 0)) (tCons (tC (.int 48)) tNil)))))
theorem pure_is_content {K : PySem.W.Frag} (vs : List V) (H : Hp) (Q : VK) (E : XK) (h : sp_is_content K vs H Q E) : t_is_content K { nx := fun _ H' => Q .non H', rt := Q } (L2.start ["thing"] vs) H := by
  obtain ⟨Rs, R_a_thing, v_a_thing, a_thing, P, rfl, h_a_thing, S0, hf, hk⟩ := h
  show t_is_content K _ [some v_a_thing] H
  refine g_ret (g_call (g_cons (g_var rfl (g_cons (g_c (g_cons (g_c (g_nil (⟨_, _, _, _, _, _, _, rfl, h_a_thing, (M.at S0 0 rfl), hf, fun x1 H3 hf (S2 : M (R_a_thing :: Rs) H3) => ?_⟩)))))))))
  exact hk _ _ hf (M.sub (.cons 0 rfl (.refl _)) S2)
def p_is_name (a_thing : Str) (P : Bool → Prop) : Prop := jn (fun k5 => if (!true) = true then (k5 true) else (jn (fun k11 => ((a_thing).length ≤ 100000) ∧ if (decide (1 ≤ ((a_thing).length : Int))) = true then (k11 (decide (((a_thing).length : Int) ≤ 8))) else (k11 false)) fun c7 => k5 (!c7))) fun c1 => if c1 = true then (P false) else (forD (fun (x21 : Str) (s18 : Unit) (k19 : (Unit) → Prop) => ∃ c25, inSt x21 ("abcdefghijklmnopqrstuvwxyz" : Str) = some c25 ∧ if (!c25) = true then (P false) else (k19 ())) (strL a_thing) () fun s18 => P true)
def sp_is_name (K : PySem.W.Frag) : Sp := fun vs H Q _ => ∃ (Rs : List Res) (a_thing : Str) (P : Bool → Prop), vs = [(V.str a_thing)] ∧ M (Rs) H ∧ p_is_name a_thing P ∧ ∀ (r : Bool) H', P r → M (Rs) H' → Q (V.bl r) H'
theorem len_is_name {K : PySem.W.Frag} (vs : List V) (H : Hp) (Q : VK) (E : XK) (h : sp_is_name K vs H Q E) : vs.length = 1 := by
  obtain ⟨Rs, a_thing, P, rfl, _⟩ := h
  rfl
abbrev t_is_name_4 (K : PySem.W.Frag) : TS := (tIfS (tTest (tOp (uNotIn K) (tVar 1) (tC (.str "abcdefghijklmnopqrstuvwxyz")))) (tRet (tC (.bl false))) tNext)
abbrev t_is_name_3 (K : PySem.W.Frag) : TS := (tSeq (tFor (iStr (tVar 0)) (gName 1) (t_is_name_4 K))
  (tRet (tC (.bl true))))
abbrev t_is_name_1 (K : PySem.W.Frag) : TS := (tSeq (tIfS (tOr (tNot (tB (tCB (rIsi K) (tCons (tVar 0) (tCons (tC (.ty "str")) tNil))))) (tNot (tTest (tChain uLe uLe (tC (.int 1)) (tCB (uLen K) (tCons (tVar 0) tNil)) (tC (.int 8)))))) (tRet (tC (.bl false))) tNext)
  (t_is_name_3 K))
abbrev t_is_name (K : PySem.W.Frag) : TS := (t_is_name_1 K)
theorem pure_is_name {K : PySem.W.Frag} (vs : List V) (H : Hp) (Q : VK) (E : XK) (h : sp_is_name K vs H Q E) : t_is_name K { nx := fun _ H' => Q .non H', rt := Q } (L2.start ["thing", "letter"] vs) H := by
  obtain ⟨Rs, a_thing, P, rfl, S0, hf, hk⟩ := h
  show t_is_name K _ [some (V.str a_thing), none] H
  refine g_seq (g_if ?_)
  refine tt_cut hf (fun H => M (Rs) H) (fun kk2 P3 hP4 hf => ?_) ?_
  ·
    refine g_or (g_not (g_B (g_cb (g_cons (g_var rfl (g_cons (g_c (g_nil (v_isq (.str _) (by decide) (b := true) rfl (g_bl (v_iff hf (fun _ hf => ?_) (fun _ hf => ?_))))))))))))
    ·
      exact hP4 _ _ hf (M.sub (.refl _) S0)
    ·
      refine g_not (g_test ?_)
      refine te_cut hf (fun H => M (Rs) H) (fun kk8 P9 hP10 hf => ?_) ?_
      ·
        obtain ⟨h13, hf⟩ := hf
        refine g_chain (g_c (g_cb (g_cons (g_var rfl (g_nil (v_lenS h13 (v_le (g_bl (v_iff hf (fun _ hf => ?_) (fun _ hf => ?_))))))))))
        ·
          refine g_c (v_le ?_)
          exact hP10 _ _ hf (M.sub (.refl _) S0)
        ·
          exact hP10 _ _ hf (M.sub (.refl _) S0)
      intro c7 H15 hf S14
      refine g_bl ?_
      exact hP4 _ _ hf (M.sub (.refl _) S14)
  intro c1 H17 hf S16
  refine v_iff hf (fun _ hf => ?_) (fun _ hf => ?_)
  ·
    refine g_ret (g_c ?_)
    exact hk _ _ hf (M.sub (.refl _) S16)
  ·
    refine g_next (g_nx (g_seq (g_for (g_iStr (g_var rfl (⟨_, rfl, ?_⟩))))))
    refine for_str (β := Unit) hf (fun (s18 : Unit) σ H' => ∃ (o22 : Option V), σ = [some (V.str a_thing), o22] ∧ M (Rs) H') ⟨_, rfl, (M.sub (.refl _) S16)⟩ ?_ ?_
    ·
      rintro x21 s18 _ H24 kk20 ⟨o22, rfl, S23⟩ hf
      obtain ⟨c25, h26, hf⟩ := hf
      refine g_name (g_if (g_test (g_op (g_var rfl (g_c (v_ninSt h26 (g_bl (v_iff hf (fun _ hf => ?_) (fun _ hf => ?_)))))))))
      ·
        refine g_ret (g_c ?_)
        exact hk _ _ hf (M.sub (.refl _) S23)
      ·
        refine g_next ?_
        exact ⟨_, hf, _, rfl, (M.sub (.refl _) S23)⟩
    rintro s18 _ H28 hf ⟨o22, rfl, S27⟩
    refine g_nx (g_ret (g_c ?_))
    exact hk _ _ hf (M.sub (.refl _) S27)
def p_wanted (a_at : Int) (a_fits : Bool) (X : Ex → Prop) (P : Unit → Prop) : Prop := if (!a_fits) = true then (X (Ex.Wrong (eI a_at))) else (P ())
def sp_wanted (K : PySem.W.Frag) : Sp := fun vs H Q E => ∃ (Rs : List Res) (a_at : Int) (a_fits : Bool) (X : Ex → Prop) (P : Unit → Prop), vs = [(V.int a_at), (V.bl a_fits)] ∧ M (Rs) H ∧ p_wanted a_at a_fits X P ∧ (∀ (x : Ex) (d : Addr) (v : V) H', X x → M (pt d (.xd [(x.fld, v)]) :: da K v x.val :: Rs) H' → E (.ref (He.ga K x.cls)) (some d) H') ∧ ∀ (m0 : Unit) H', P m0 → M (Rs) H' → Q .non H'
theorem len_wanted {K : PySem.W.Frag} (vs : List V) (H : Hp) (Q : VK) (E : XK) (h : sp_wanted K vs H Q E) : vs.length = 2 := by
  obtain ⟨Rs, a_at, a_fits, X, P, rfl, _⟩ := h
  rfl
abbrev t_wanted_1 (K : PySem.W.Frag) (W : WX) : TS := (tIfS (tNot (tB (tVar 1))) (tRz W (He.ga K "Wrong") "at" (tVar 0)) tNext)
abbrev t_wanted (K : PySem.W.Frag) (W : WX) : TS := (t_wanted_1 K W)
theorem pure_wanted {K : PySem.W.Frag} (T : TxC K) (vs : List V) (H : Hp) (Q : VK) (E : XK) (h : sp_wanted K vs H Q E) : t_wanted K (WT E) { nx := fun _ H' => Q .non H', rt := Q } (L2.start ["at", "fits"] vs) H := by
  obtain ⟨Rs, a_at, a_fits, X, P, rfl, S0, hf, hX, hk⟩ := h
  show t_wanted K (WT E) _ [some (V.int a_at), some (V.bl a_fits)] H
  refine g_if (g_not (g_B (g_var rfl (g_bl (v_iff hf (fun _ hf => ?_) (fun _ hf => ?_))))))
  ·
    refine g_rz (g_var rfl ?_)
    have S1 : M (da K (V.int a_at) (eI a_at) :: Rs) H := M.addA S0 (EnF.all fun _ => .int _)
    refine v_rz S1 fun d3 H5 (S4 : M (pt d3 (.xd [("at", (V.int a_at))]) :: da K (V.int a_at) (eI a_at) :: Rs) H5) => ?_
    exact hX (Ex.Wrong (eI a_at)) d3 (V.int a_at) _ hf (M.sub (.cons 0 rfl (.cons 0 rfl (.refl _))) S4)
  ·
    refine g_next ?_
    exact hk _ _ hf (M.sub (.refl _) S0)
def R_House (K : PySem.W.Frag) (a : Addr) (x : (List (Str × (List Int)))) : Res := exi fun (dx : Addr) => exi fun (p0 : Addr) => sp2 (pt a (.ins (He.ga K "House") dx [("signs_by", .ref p0)])) (sp2 (pt dx (.own a)) (adR K iS (eL eI) p0 x))
theorem R_House_open {K : PySem.W.Frag} {a : Addr} {x : (List (Str × (List Int)))} {Rs : List Res} {H : Hp} (S : M (R_House K a x :: Rs) H) : ∃ (dx : Addr) (p0 : Addr), M (pt a (.ins (He.ga K "House") dx [("signs_by", .ref p0)]) :: pt dx (.own a) :: adR K iS (eL eI) p0 x :: Rs) H := by
  obtain ⟨dx, S⟩ := S.ex
  obtain ⟨p0, S⟩ := S.ex
  exact ⟨dx, p0, M.spN3 S⟩
theorem R_House_close {K : PySem.W.Frag} {a : Addr} {x : (List (Str × (List Int)))} {Rs : List Res} {H : Hp} {dx : Addr} {p0 : Addr} (S : M (pt a (.ins (He.ga K "House") dx [("signs_by", .ref p0)]) :: pt dx (.own a) :: adR K iS (eL eI) p0 x :: Rs) H) : M (R_House K a x :: Rs) H := M.ex' dx <| M.ex' p0 <| M.spM3 S
theorem v_R_House {K : PySem.W.Frag} {a : Addr} {x : (List (Str × (List Int)))} {Rs : List Res} {H : Hp} {W : WX} {m : Str} {sp : Sp} {dvs : List V} {t : TA} {σ : L2.St} {Q : VK} (S : M Rs H) (i : Nat) (e : Rs[i]? = some (R_House K a x)) (hm : ∀ (dx : Addr) (p0 : Addr), List.lookup m ([("signs_by", .ref p0)] : List (Str × V)) = none)
    (k : t σ H fun vs H2 => sp (.ref a :: (vs ++ dvs)) H2 Q (WE W σ)) : MethK W (He.ga K "House") m sp dvs t σ Q (.ref a) H := by
  obtain ⟨dx, p0, S1⟩ := R_House_open (S.at i e)
  exact v_meth (S1.got 0 rfl) (hm dx p0) k
theorem v_len_House {K : PySem.W.Frag} {a : Addr} {x : (List (Str × (List Int)))} {Rs : List Res} {H : Hp} {sp : Sp} {Q : VK} (S : M Rs H) (i : Nat) (e : Rs[i]? = some (R_House K a x)) (k : sp [.ref a] H (fun v H' => ∃ n : Int, v = .int n ∧ 0 ≤ n ∧ n < 2 ^ 63 ∧ Q (.int n) H') E0) : rLenI (He.ga K "House") sp [.ref a] H Q := by
  obtain ⟨dx, p0, S1⟩ := R_House_open (S.at i e)
  exact ⟨a, _, _, rfl, S1.got 0 rfl, k⟩
def p_House___init__  (P : ((List (Str × (List Int)))) → Prop) : Prop := P ([] : (List (Str × (List Int))))
def sp_House___init__ (K : PySem.W.Frag) : Sp := fun vs H Q _ => ∃ (Rs : List Res) (p_a_self d_a_self : Addr) (P : ((List (Str × (List Int)))) → Prop), vs = [(V.ref p_a_self)] ∧ M (pt p_a_self (.ins (He.ga K "House") d_a_self []) :: pt d_a_self (.own p_a_self) :: Rs) H ∧ p_House___init__ P ∧ ∀ (m0 : ((List (Str × (List Int))))) H', P m0 → M (R_House K p_a_self m0 :: Rs) H' → Q .non H'
theorem len_House___init__ {K : PySem.W.Frag} (vs : List V) (H : Hp) (Q : VK) (E : XK) (h : sp_House___init__ K vs H Q E) : vs.length = 1 := by
  obtain ⟨Rs, p_a_self, d_a_self, P, rfl, _⟩ := h
  rfl
abbrev t_House___init__ (K : PySem.W.Frag) : TS := (sFld K (tVar 0) tDNewK "signs_by")
theorem pure_House___init__ {K : PySem.W.Frag} (T : TxC K) (vs : List V) (H : Hp) (Q : VK) (E : XK) (h : sp_House___init__ K vs H Q E) : t_House___init__ K { nx := fun _ H' => Q .non H', rt := Q } (L2.start ["self"] vs) H := by
  obtain ⟨Rs, p_a_self, d_a_self, P, rfl, S0, hf, hk⟩ := h
  show t_House___init__ K _ [some (V.ref p_a_self)] H
  refine g_sfld (v_dnewo S0 fun p1 H3 (S2 : M (adR K iS (eL eI) p1 ([] : (List (Str × (List Int)))) :: pt p_a_self (.ins (He.ga K "House") d_a_self []) :: pt d_a_self (.own p_a_self) :: Rs) H3) => ?_)
  refine g_var rfl (v_sfld S2 1 rfl T.cl_House T.na_House_signs_by (by decide) fun H6 (S5 : M (adR K iS (eL eI) p1 ([] : (List (Str × (List Int)))) :: pt p_a_self (.ins (He.ga K "House") d_a_self [("signs_by", (V.ref p1))]) :: pt d_a_self (.own p_a_self) :: Rs) H6) => ?_)
  have S7 : M (R_House K p_a_self ([] : (List (Str × (List Int)))) :: Rs) H6 := R_House_close (M.sub (.cons 1 rfl (.cons 1 rfl (.cons 0 rfl (.refl _)))) S5)
  exact hk _ _ hf (M.sub (.cons 0 rfl (.refl _)) S7)
def p_House___len__ (a_self : ((List (Str × (List Int))))) (P : Int → Prop) : Prop := P ((a_self).length : Int)
def sp_House___len__ (K : PySem.W.Frag) : Sp := fun vs H Q _ => ∃ (Rs : List Res) (p_a_self : Addr) (a_self : ((List (Str × (List Int))))) (P : Int → Prop), vs = [(V.ref p_a_self)] ∧ M (R_House K p_a_self a_self :: Rs) H ∧ p_House___len__ a_self P ∧ ∀ (r : Int) H', P r → M (R_House K p_a_self a_self :: Rs) H' → Q (V.int r) H'
theorem len_House___len__ {K : PySem.W.Frag} (vs : List V) (H : Hp) (Q : VK) (E : XK) (h : sp_House___len__ K vs H Q E) : vs.length = 1 := by
  obtain ⟨Rs, p_a_self, a_self, P, rfl, _⟩ := h
  rfl
abbrev t_House___len__ (K : PySem.W.Frag) : TS := (tRet (tCB (uLen K) (tCons (tFld K (tVar 0) "signs_by") tNil)))
theorem pure_House___len__ {K : PySem.W.Frag} (T : TxC K) (vs : List V) (H : Hp) (Q : VK) (E : XK) (h : sp_House___len__ K vs H Q E) : t_House___len__ K { nx := fun _ H' => Q .non H', rt := Q } (L2.start ["self"] vs) H := by
  obtain ⟨Rs, p_a_self, a_self, P, rfl, S0, hf, hk⟩ := h
  show t_House___len__ K _ [some (V.ref p_a_self)] H
  obtain ⟨dx2, p3, (S1 : M (pt p_a_self (.ins (He.ga K "House") dx2 [("signs_by", (V.ref p3))]) :: pt dx2 (.own p_a_self) :: adR K iS (eL eI) p3 a_self :: Rs) H)⟩ := R_House_open (S0.at 0 rfl)
  refine g_ret (g_cb (g_cons (g_fld (g_var rfl (v_fld (S1.got 0 rfl) T.cl_House T.na_House_signs_by rfl (g_nil (v_lend S1 2 rfl ?_)))))))
  have S7 : M (R_House K p_a_self a_self :: Rs) H := R_House_close (M.sub (.cons 0 rfl (.cons 0 rfl (.cons 0 rfl (.refl _)))) S1)
  exact hk _ _ hf (M.sub (.cons 0 rfl (.refl _)) S7)
def p_House_need_file (a_self : ((List (Str × (List Int))))) (a_name : Str) (X : Ex → Prop) (P : Unit → Prop) : Prop := if (!(lk a_self a_name).isSome) = true then (X (Ex.NoFile (eS a_name))) else (P ())
def sp_House_need_file (K : PySem.W.Frag) : Sp := fun vs H Q E => ∃ (Rs : List Res) (p_a_self : Addr) (a_self : ((List (Str × (List Int))))) (a_name : Str) (X : Ex → Prop) (P : Unit → Prop), vs = [(V.ref p_a_self), (V.str a_name)] ∧ M (R_House K p_a_self a_self :: Rs) H ∧ p_House_need_file a_self a_name X P ∧ (∀ (x : Ex) (d : Addr) (v : V) H', X x → M (pt d (.xd [(x.fld, v)]) :: da K v x.val :: R_House K p_a_self a_self :: Rs) H' → E (.ref (He.ga K x.cls)) (some d) H') ∧ ∀ (m0 : Unit) H', P m0 → M (R_House K p_a_self a_self :: Rs) H' → Q .non H'
theorem len_House_need_file {K : PySem.W.Frag} (vs : List V) (H : Hp) (Q : VK) (E : XK) (h : sp_House_need_file K vs H Q E) : vs.length = 2 := by
  obtain ⟨Rs, p_a_self, a_self, a_name, X, P, rfl, _⟩ := h
  rfl
abbrev t_House_need_file_1 (K : PySem.W.Frag) (W : WX) : TS := (tIfS (tTest (tOp (uNotIn K) (tVar 1) (tFld K (tVar 0) "signs_by"))) (tRz W (He.ga K "NoFile") "name" (tVar 1)) tNext)
abbrev t_House_need_file (K : PySem.W.Frag) (W : WX) : TS := (t_House_need_file_1 K W)
theorem pure_House_need_file {K : PySem.W.Frag} (T : TxC K) (vs : List V) (H : Hp) (Q : VK) (E : XK) (h : sp_House_need_file K vs H Q E) : t_House_need_file K (WT E) { nx := fun _ H' => Q .non H', rt := Q } (L2.start ["self", "name"] vs) H := by
  obtain ⟨Rs, p_a_self, a_self, a_name, X, P, rfl, S0, hf, hX, hk⟩ := h
  show t_House_need_file K (WT E) _ [some (V.ref p_a_self), some (V.str a_name)] H
  obtain ⟨dx2, p3, (S1 : M (pt p_a_self (.ins (He.ga K "House") dx2 [("signs_by", (V.ref p3))]) :: pt dx2 (.own p_a_self) :: adR K iS (eL eI) p3 a_self :: Rs) H)⟩ := R_House_open (S0.at 0 rfl)
  refine g_if (g_test (g_op (g_var rfl (g_fld (g_var rfl (v_fld (S1.got 0 rfl) T.cl_House T.na_House_signs_by rfl (v_nindS S1 2 rfl (g_bl (v_iff hf (fun _ hf => ?_) (fun _ hf => ?_))))))))))
  ·
    refine g_rz (g_var rfl ?_)
    have S7 : M (da K (V.str a_name) (eS a_name) :: pt p_a_self (.ins (He.ga K "House") dx2 [("signs_by", (V.ref p3))]) :: pt dx2 (.own p_a_self) :: adR K iS (eL eI) p3 a_self :: Rs) H := M.addA S1 (EnF.all fun _ => .str _)
    refine v_rz S7 fun d9 H11 (S10 : M (pt d9 (.xd [("name", (V.str a_name))]) :: da K (V.str a_name) (eS a_name) :: pt p_a_self (.ins (He.ga K "House") dx2 [("signs_by", (V.ref p3))]) :: pt dx2 (.own p_a_self) :: adR K iS (eL eI) p3 a_self :: Rs) H11) => ?_
    have S13 : M (R_House K p_a_self a_self :: pt d9 (.xd [("name", (V.str a_name))]) :: da K (V.str a_name) (eS a_name) :: Rs) H11 := R_House_close (M.sub (.cons 2 rfl (.cons 2 rfl (.cons 2 rfl (.refl _)))) S10)
    exact hX (Ex.NoFile (eS a_name)) d9 (V.str a_name) _ hf (M.sub (.cons 1 rfl (.cons 1 rfl (.cons 0 rfl (.refl _)))) S13)
  ·
    refine g_next ?_
    have S15 : M (R_House K p_a_self a_self :: Rs) H := R_House_close (M.sub (.cons 0 rfl (.cons 0 rfl (.cons 0 rfl (.refl _)))) S1)
    exact hk _ _ hf (M.sub (.cons 0 rfl (.refl _)) S15)
def p_House_names_of (a_self : ((List (Str × (List Int))))) (P : (List Str) → Prop) : Prop := (ks a_self).length < 64 ∧ P (srtS' (ks a_self))
def sp_House_names_of (K : PySem.W.Frag) : Sp := fun vs H Q _ => ∃ (Rs : List Res) (p_a_self : Addr) (a_self : ((List (Str × (List Int))))) (P : (List Str) → Prop), vs = [(V.ref p_a_self)] ∧ M (R_House K p_a_self a_self :: Rs) H ∧ p_House_names_of a_self P ∧ ∀ (r : (List Str)) (p : Addr) H', P r → M (acR K p (r.map eS) :: R_House K p_a_self a_self :: Rs) H' → Q (.ref p) H'
theorem len_House_names_of {K : PySem.W.Frag} (vs : List V) (H : Hp) (Q : VK) (E : XK) (h : sp_House_names_of K vs H Q E) : vs.length = 1 := by
  obtain ⟨Rs, p_a_self, a_self, P, rfl, _⟩ := h
  rfl
abbrev t_House_names_of (K : PySem.W.Frag) : TS := (tRet (tCB rSortDS (tCons (tFld K (tVar 0) "signs_by") tNil)))
theorem pure_House_names_of {K : PySem.W.Frag} (T : TxC K) (vs : List V) (H : Hp) (Q : VK) (E : XK) (h : sp_House_names_of K vs H Q E) : t_House_names_of K { nx := fun _ H' => Q .non H', rt := Q } (L2.start ["self"] vs) H := by
  obtain ⟨Rs, p_a_self, a_self, P, rfl, S0, hf, hk⟩ := h
  show t_House_names_of K _ [some (V.ref p_a_self)] H
  obtain ⟨dx2, p3, (S1 : M (pt p_a_self (.ins (He.ga K "House") dx2 [("signs_by", (V.ref p3))]) :: pt dx2 (.own p_a_self) :: adR K iS (eL eI) p3 a_self :: Rs) H)⟩ := R_House_open (S0.at 0 rfl)
  refine g_ret (g_cb (g_cons (g_fld (g_var rfl (v_fld (S1.got 0 rfl) T.cl_House T.na_House_signs_by rfl (g_nil ?_))))))
  obtain ⟨h7, hf⟩ := hf
  refine v_sortdS S1 2 rfl h7 fun p8 H10 (S9 : M (acR K p8 ((srtS' (ks a_self)).map eS) :: pt p_a_self (.ins (He.ga K "House") dx2 [("signs_by", (V.ref p3))]) :: pt dx2 (.own p_a_self) :: adR K iS (eL eI) p3 a_self :: Rs) H10) => ?_
  have S12 : M (R_House K p_a_self a_self :: acR K p8 ((srtS' (ks a_self)).map eS) :: Rs) H10 := R_House_close (M.sub (.cons 1 rfl (.cons 1 rfl (.cons 1 rfl (.refl _)))) S9)
  exact hk _ _ _ hf (M.sub (.cons 1 rfl (.cons 0 rfl (.refl _))) S12)
def p_House_write (a_self : ((List (Str × (List Int))))) (a_name : Str) (a_content : (List Int)) (X : Ex → ((List (Str × (List Int)))) → Prop) (P : ((List (Str × (List Int)))) → Prop) : Prop := p_is_name a_name fun x1 => p_wanted 0 x1 (fun x9 => X x9 a_self) fun _u5 => p_is_content a_content fun x16 => p_wanted 1 x16 (fun x24 => X x24 a_self) fun _u20 => if ((!(lk a_self a_name).isSome) && (decide (((a_self).length : Int) = 8))) = true then (X (Ex.TooMany (eI 8)) a_self) else ((a_self).length < 100000 ∧ P (pk a_self a_name a_content))
def sp_House_write (K : PySem.W.Frag) : Sp := fun vs H Q E => ∃ (Rs : List Res) (p_a_self : Addr) (a_self : ((List (Str × (List Int))))) (a_name : Str) (R_a_content : Res) (v_a_content : V) (a_content : (List Int)) (X : Ex → ((List (Str × (List Int)))) → Prop) (P : ((List (Str × (List Int)))) → Prop), vs = [(V.ref p_a_self), (V.str a_name), v_a_content] ∧ Brw R_a_content K v_a_content ((eL eI) a_content) ∧ M (R_House K p_a_self a_self :: R_a_content :: Rs) H ∧ p_House_write a_self a_name a_content X P ∧ (∀ (x : Ex) (m0 : ((List (Str × (List Int))))) (d : Addr) (v : V) H', X x m0 → M (pt d (.xd [(x.fld, v)]) :: da K v x.val :: R_House K p_a_self m0 :: R_a_content :: Rs) H' → E (.ref (He.ga K x.cls)) (some d) H') ∧ ∀ (m0 : ((List (Str × (List Int))))) H', P m0 → M (R_House K p_a_self m0 :: R_a_content :: Rs) H' → Q .non H'
theorem len_House_write {K : PySem.W.Frag} (vs : List V) (H : Hp) (Q : VK) (E : XK) (h : sp_House_write K vs H Q E) : vs.length = 3 := by
  obtain ⟨Rs, p_a_self, a_self, a_name, R_a_content, v_a_content, a_content, X, P, rfl, _⟩ := h
  rfl
abbrev t_House_write_3 (K : PySem.W.Frag) (W : WX) : TS := (tSeq (tIfS (tAnd (tTest (tOp (uNotIn K) (tVar 1) (tFld K (tVar 0) "signs_by"))) (tTest (tOp (uEq K) (tCB (uLen K) (tCons (tFld K (tVar 0) "signs_by") tNil)) (tC (.int 8))))) (tRz W (He.ga K "TooMany") "most" (tC (.int 8))) tNext)
  (tAsg (tCB (rListOf K) (tCons (tVar 2) tNil)) (gSub (tFld K (tVar 0) "signs_by") (tVar 1) uSet)))
abbrev t_House_write_2 (K : PySem.W.Frag) (W : WX) : TS := (tSeq (tDrop (tCallW W (sp_wanted K) [] (tCons (tC (.int 1)) (tCons (tCall (sp_is_content K) [] E0 (tCons (tVar 2) tNil)) tNil))))
  (t_House_write_3 K W))
abbrev t_House_write_1 (K : PySem.W.Frag) (W : WX) : TS := (tSeq (tDrop (tCallW W (sp_wanted K) [] (tCons (tC (.int 0)) (tCons (tCall (sp_is_name K) [] E0 (tCons (tVar 1) tNil)) tNil))))
  (t_House_write_2 K W))
abbrev t_House_write (K : PySem.W.Frag) (W : WX) : TS := (t_House_write_1 K W)
theorem pure_House_write {K : PySem.W.Frag} (T : TxC K) (vs : List V) (H : Hp) (Q : VK) (E : XK) (h : sp_House_write K vs H Q E) : t_House_write K (WT E) { nx := fun _ H' => Q .non H', rt := Q } (L2.start ["self", "name", "content"] vs) H := by
  obtain ⟨Rs, p_a_self, a_self, a_name, R_a_content, v_a_content, a_content, X, P, rfl, h_a_content, S0, hf, hX, hk⟩ := h
  show t_House_write K (WT E) _ [some (V.ref p_a_self), some (V.str a_name), some v_a_content] H
  refine g_seq (g_drop (g_callW (g_cons (g_c (g_cons (g_call (g_cons (g_var rfl (g_nil (⟨_, _, _, rfl, S0, hf, fun x1 H3 hf (S2 : M (R_House K p_a_self a_self :: R_a_content :: Rs) H3) => ?_⟩))))))))))
  refine g_nil (⟨_, _, _, _, _, rfl, S2, hf, fun x9 d10 v11 H13 hf (S12 : M (pt d10 (.xd [(x9.fld, v11)]) :: da K v11 x9.val :: R_House K p_a_self a_self :: R_a_content :: Rs) H13) => ?_, fun _u5 H7 hf (S6 : M (R_House K p_a_self a_self :: R_a_content :: Rs) H7) => ?_⟩)
  ·
    exact hX x9 _ d10 v11 _ hf (M.sub (.cons 0 rfl (.cons 0 rfl (.cons 0 rfl (.cons 0 rfl (.refl _))))) S12)
  refine g_nx (g_seq (g_drop (g_callW (g_cons (g_c (g_cons (g_call (g_cons (g_var rfl (g_nil (⟨_, _, _, _, _, rfl, h_a_content, (M.at S6 1 rfl), hf, fun x16 H18 hf (S17 : M (R_a_content :: R_House K p_a_self a_self :: Rs) H18) => ?_⟩)))))))))))
  refine g_nil (⟨_, _, _, _, _, rfl, S17, hf, fun x24 d25 v26 H28 hf (S27 : M (pt d25 (.xd [(x24.fld, v26)]) :: da K v26 x24.val :: R_a_content :: R_House K p_a_self a_self :: Rs) H28) => ?_, fun _u20 H22 hf (S21 : M (R_a_content :: R_House K p_a_self a_self :: Rs) H22) => ?_⟩)
  ·
    exact hX x24 _ d25 v26 _ hf (M.sub (.cons 0 rfl (.cons 0 rfl (.cons 1 rfl (.cons 0 rfl (.refl _))))) S27)
  obtain ⟨dx32, p33, (S31 : M (pt p_a_self (.ins (He.ga K "House") dx32 [("signs_by", (V.ref p33))]) :: pt dx32 (.own p_a_self) :: adR K iS (eL eI) p33 a_self :: R_a_content :: Rs) H22)⟩ := R_House_open (S21.at 1 rfl)
  refine g_nx (g_seq (g_if (g_andP (c1 := (!(lk a_self a_name).isSome)) (c2 := (decide (((a_self).length : Int) = 8))) (fun _ hq => ?_) (fun _ hq => ?_) ?_)))
  ·
    refine g_test (g_op (g_var rfl (g_fld (g_var rfl (v_fld (S31.got 0 rfl) T.cl_House T.na_House_signs_by rfl (v_nindS S31 2 rfl (g_bl ?_)))))))
    exact hq
  ·
    refine g_test (g_op (g_cb (g_cons (g_fld (g_var rfl (v_fld (S31.got 0 rfl) T.cl_House T.na_House_signs_by rfl (g_nil (v_lend S31 2 rfl (g_c (v_eqI (g_bl ?_)))))))))))
    exact hq
  refine v_iff hf (fun _ hf => ?_) (fun _ hf => ?_)
  ·
    refine g_rz (g_c ?_)
    have S37 : M (da K (V.int 8) (eI 8) :: pt p_a_self (.ins (He.ga K "House") dx32 [("signs_by", (V.ref p33))]) :: pt dx32 (.own p_a_self) :: adR K iS (eL eI) p33 a_self :: R_a_content :: Rs) H22 := M.addA S31 (EnF.all fun _ => .int _)
    refine v_rz S37 fun d39 H41 (S40 : M (pt d39 (.xd [("most", (V.int 8))]) :: da K (V.int 8) (eI 8) :: pt p_a_self (.ins (He.ga K "House") dx32 [("signs_by", (V.ref p33))]) :: pt dx32 (.own p_a_self) :: adR K iS (eL eI) p33 a_self :: R_a_content :: Rs) H41) => ?_
    have S43 : M (R_House K p_a_self a_self :: pt d39 (.xd [("most", (V.int 8))]) :: da K (V.int 8) (eI 8) :: R_a_content :: Rs) H41 := R_House_close (M.sub (.cons 2 rfl (.cons 2 rfl (.cons 2 rfl (.refl _)))) S40)
    exact hX (Ex.TooMany (eI 8)) _ d39 (V.int 8) _ hf (M.sub (.cons 1 rfl (.cons 1 rfl (.cons 0 rfl (.cons 0 rfl (.refl _))))) S43)
  ·
    refine g_next (g_nx (g_asgX (g_cb (g_cons (g_var rfl (g_nil (v_liN flI S31 (h_a_content _ _ (M.at S31 3 rfl)) fun p45 H47 (S46 : M (acR K p45 (a_content.map eI) :: pt p_a_self (.ins (He.ga K "House") dx32 [("signs_by", (V.ref p33))]) :: pt dx32 (.own p_a_self) :: adR K iS (eL eI) p33 a_self :: R_a_content :: Rs) H47) => ?_)))))))
    have S49 : M (da K (V.ref p45) ((eL eI) a_content) :: pt p_a_self (.ins (He.ga K "House") dx32 [("signs_by", (V.ref p33))]) :: pt dx32 (.own p_a_self) :: adR K iS (eL eI) p33 a_self :: R_a_content :: Rs) H47 := acR_fixL S46
    refine g_sub (g_fld (g_var rfl (v_fld (S49.got 1 rfl) T.cl_House T.na_House_signs_by rfl (g_var rfl ?_))))
    obtain ⟨h51, hf⟩ := hf
    refine v_putdS (e := (eL eI)) (x := a_content) S49 3 rfl (EnF.at 0 rfl) h51 fun H53 (S52 : M (adR K iS (eL eI) p33 (pk a_self a_name a_content) :: da K (V.ref p45) ((eL eI) a_content) :: pt p_a_self (.ins (He.ga K "House") dx32 [("signs_by", (V.ref p33))]) :: pt dx32 (.own p_a_self) :: R_a_content :: Rs) H53) => ?_
    have S55 : M (R_House K p_a_self (pk a_self a_name a_content) :: da K (V.ref p45) ((eL eI) a_content) :: R_a_content :: Rs) H53 := R_House_close (M.sub (.cons 2 rfl (.cons 2 rfl (.cons 0 rfl (.refl _)))) S52)
    exact hk _ _ hf (M.sub (.cons 0 rfl (.cons 1 rfl (.tl (.refl _)))) S55)
def p_House_content (a_self : ((List (Str × (List Int))))) (a_name : Str) (X : Ex → Prop) (P : (List Int) → Prop) : Prop := p_is_name a_name fun x1 => p_wanted 0 x1 (fun x9 => X x9) fun _u5 => p_House_need_file a_self a_name (fun x20 => X x20) fun _u16 => ∃ x33, lk a_self a_name = some x33 ∧ P x33
def sp_House_content (K : PySem.W.Frag) : Sp := fun vs H Q E => ∃ (Rs : List Res) (p_a_self : Addr) (a_self : ((List (Str × (List Int))))) (a_name : Str) (X : Ex → Prop) (P : (List Int) → Prop), vs = [(V.ref p_a_self), (V.str a_name)] ∧ M (R_House K p_a_self a_self :: Rs) H ∧ p_House_content a_self a_name X P ∧ (∀ (x : Ex) (d : Addr) (v : V) H', X x → M (pt d (.xd [(x.fld, v)]) :: da K v x.val :: R_House K p_a_self a_self :: Rs) H' → E (.ref (He.ga K x.cls)) (some d) H') ∧ ∀ (r : (List Int)) (p : Addr) H', P r → M (acR K p (r.map eI) :: R_House K p_a_self a_self :: Rs) H' → Q (.ref p) H'
theorem len_House_content {K : PySem.W.Frag} (vs : List V) (H : Hp) (Q : VK) (E : XK) (h : sp_House_content K vs H Q E) : vs.length = 2 := by
  obtain ⟨Rs, p_a_self, a_self, a_name, X, P, rfl, _⟩ := h
  rfl
abbrev t_House_content_2 (K : PySem.W.Frag) (W : WX) : TS := (tSeq (tDrop (tMethW W (He.ga K "House") "need_file" (sp_House_need_file K) [] (tVar 0) (tCons (tVar 1) tNil)))
  (tRet (tCB (rListOf K) (tCons (tOp rIxK (tFld K (tVar 0) "signs_by") (tVar 1)) tNil))))
abbrev t_House_content_1 (K : PySem.W.Frag) (W : WX) : TS := (tSeq (tDrop (tCallW W (sp_wanted K) [] (tCons (tC (.int 0)) (tCons (tCall (sp_is_name K) [] E0 (tCons (tVar 1) tNil)) tNil))))
  (t_House_content_2 K W))
abbrev t_House_content (K : PySem.W.Frag) (W : WX) : TS := (t_House_content_1 K W)
theorem pure_House_content {K : PySem.W.Frag} (T : TxC K) (vs : List V) (H : Hp) (Q : VK) (E : XK) (h : sp_House_content K vs H Q E) : t_House_content K (WT E) { nx := fun _ H' => Q .non H', rt := Q } (L2.start ["self", "name"] vs) H := by
  obtain ⟨Rs, p_a_self, a_self, a_name, X, P, rfl, S0, hf, hX, hk⟩ := h
  show t_House_content K (WT E) _ [some (V.ref p_a_self), some (V.str a_name)] H
  refine g_seq (g_drop (g_callW (g_cons (g_c (g_cons (g_call (g_cons (g_var rfl (g_nil (⟨_, _, _, rfl, S0, hf, fun x1 H3 hf (S2 : M (R_House K p_a_self a_self :: Rs) H3) => ?_⟩))))))))))
  refine g_nil (⟨_, _, _, _, _, rfl, S2, hf, fun x9 d10 v11 H13 hf (S12 : M (pt d10 (.xd [(x9.fld, v11)]) :: da K v11 x9.val :: R_House K p_a_self a_self :: Rs) H13) => ?_, fun _u5 H7 hf (S6 : M (R_House K p_a_self a_self :: Rs) H7) => ?_⟩)
  ·
    exact hX x9 d10 v11 _ hf (M.sub (.cons 0 rfl (.cons 0 rfl (.cons 0 rfl (.refl _)))) S12)
  refine g_nx (g_seq (g_drop (g_meth (g_var rfl (v_R_House S6 0 rfl (fun _ _ => rfl) (g_cons (g_var rfl (g_nil (⟨_, _, _, _, _, _, rfl, (M.at S6 0 rfl), hf, fun x20 d21 v22 H24 hf (S23 : M (pt d21 (.xd [(x20.fld, v22)]) :: da K v22 x20.val :: R_House K p_a_self a_self :: Rs) H24) => ?_, fun _u16 H18 hf (S17 : M (R_House K p_a_self a_self :: Rs) H18) => ?_⟩)))))))))
  ·
    exact hX x20 d21 v22 _ hf (M.sub (.cons 0 rfl (.cons 0 rfl (.cons 0 rfl (.refl _)))) S23)
  obtain ⟨dx28, p29, (S27 : M (pt p_a_self (.ins (He.ga K "House") dx28 [("signs_by", (V.ref p29))]) :: pt dx28 (.own p_a_self) :: adR K iS (eL eI) p29 a_self :: Rs) H18)⟩ := R_House_open (S17.at 0 rfl)
  refine g_nx (g_ret (g_cb (g_cons (g_op (g_fld (g_var rfl (v_fld (S27.got 0 rfl) T.cl_House T.na_House_signs_by rfl (g_var rfl ?_))))))))
  obtain ⟨x33, h34, hf⟩ := hf
  refine v_ixdS S27 2 rfl h34 fun u35 S36 => ?_
  refine g_nil (v_liN flI S36 (M.gotA S36 0 rfl) fun p38 H40 (S39 : M (acR K p38 (x33.map eI) :: da K u35 ((eL eI) x33) :: pt p_a_self (.ins (He.ga K "House") dx28 [("signs_by", (V.ref p29))]) :: pt dx28 (.own p_a_self) :: adR K iS (eL eI) p29 a_self :: Rs) H40) => ?_)
  have S42 : M (R_House K p_a_self a_self :: acR K p38 (x33.map eI) :: da K u35 ((eL eI) x33) :: Rs) H40 := R_House_close (M.sub (.cons 2 rfl (.cons 2 rfl (.cons 2 rfl (.refl _)))) S39)
  exact hk _ _ _ hf (M.sub (.cons 1 rfl (.cons 0 rfl (.tl (.refl _)))) S42)
def p_House_contents (a_self : ((List (Str × (List Int))))) (P : (List (Str × (List Int))) → Prop) : Prop := (ks a_self).length < 64 ∧ ((srtS' (ks a_self))).length ≤ 100000 ∧ dcD (fun (x15 : Str) (acc12 : List (Str × (List Int))) (k22 : Option (Str × (List Int)) → Prop) => ∃ x23, lk a_self x15 = some x23 ∧ lk acc12 x15 = none ∧ k22 (some (x15, x23))) (srtS' (ks a_self)) [] fun acc12 => P acc12
def sp_House_contents (K : PySem.W.Frag) : Sp := fun vs H Q _ => ∃ (Rs : List Res) (p_a_self : Addr) (a_self : ((List (Str × (List Int))))) (P : (List (Str × (List Int))) → Prop), vs = [(V.ref p_a_self)] ∧ M (R_House K p_a_self a_self :: Rs) H ∧ p_House_contents a_self P ∧ ∀ (r : (List (Str × (List Int)))) (p : Addr) H', P r → M (adoR p r :: R_House K p_a_self a_self :: Rs) H' → Q (.ref p) H'
theorem len_House_contents {K : PySem.W.Frag} (vs : List V) (H : Hp) (Q : VK) (E : XK) (h : sp_House_contents K vs H Q E) : vs.length = 1 := by
  obtain ⟨Rs, p_a_self, a_self, P, rfl, _⟩ := h
  rfl
abbrev t_House_contents (K : PySem.W.Frag) : TS := (tRet (tDc (iList K (tCB rSortDS (tCons (tFld K (tVar 0) "signs_by") tNil))) (gName 1) tYes (tVar 1) (tCB (rListOf K) (tCons (tOp rIxK (tFld K (tVar 0) "signs_by") (tVar 1)) tNil)) [1]))
theorem pure_House_contents {K : PySem.W.Frag} (T : TxC K) (vs : List V) (H : Hp) (Q : VK) (E : XK) (h : sp_House_contents K vs H Q E) : t_House_contents K { nx := fun _ H' => Q .non H', rt := Q } (L2.start ["self", "name"] vs) H := by
  obtain ⟨Rs, p_a_self, a_self, P, rfl, S0, hf, hk⟩ := h
  show t_House_contents K _ [some (V.ref p_a_self), none] H
  obtain ⟨dx2, p3, (S1 : M (pt p_a_self (.ins (He.ga K "House") dx2 [("signs_by", (V.ref p3))]) :: pt dx2 (.own p_a_self) :: adR K iS (eL eI) p3 a_self :: Rs) H)⟩ := R_House_open (S0.at 0 rfl)
  refine g_ret (g_dc (g_iList (g_cb (g_cons (g_fld (g_var rfl (v_fld (S1.got 0 rfl) T.cl_House T.na_House_signs_by rfl (g_nil ?_))))))))
  obtain ⟨h7, hf⟩ := hf
  refine v_sortdS S1 2 rfl h7 fun p8 H10 (S9 : M (acR K p8 ((srtS' (ks a_self)).map eS) :: pt p_a_self (.ins (He.ga K "House") dx2 [("signs_by", (V.ref p3))]) :: pt dx2 (.own p_a_self) :: adR K iS (eL eI) p3 a_self :: Rs) H10) => ?_
  refine dc_G flS adoR (fun _ _ S => ado_new S) (K := K) hf S9 (fun _ S => S.gotO 0 rfl) (fun x15 acc12 E13 H21 kk14 N16 hl17 S20 hf hp18 hn19 => ?_) (fun E13 acc12 H36 hf (S35 : M (adoR E13 acc12 :: acR K p8 ((srtS' (ks a_self)).map eS) :: pt p_a_self (.ins (He.ga K "House") dx2 [("signs_by", (V.ref p3))]) :: pt dx2 (.own p_a_self) :: adR K iS (eL eI) p3 a_self :: Rs) H36) => ?_)
  ·
    refine g_name (g_wipe rfl (g_yes (v_ifT (g_var rfl (g_cb (g_cons (g_op (g_fld (g_var rfl (v_fld (S20.got 2 rfl) T.cl_House T.na_House_signs_by rfl (g_var rfl ?_)))))))))))
    obtain ⟨x23, h24, hf⟩ := hf
    refine v_ixdS S20 4 rfl h24 fun u25 S26 => ?_
    refine g_nil (v_liN flI S26 (M.gotA S26 0 rfl) fun p28 H30 (S29 : M (acR K p28 (x23.map eI) :: da K u25 ((eL eI) x23) :: adoR E13 acc12 :: acR K p8 ((srtS' (ks a_self)).map eS) :: pt p_a_self (.ins (He.ga K "House") dx2 [("signs_by", (V.ref p3))]) :: pt dx2 (.own p_a_self) :: adR K iS (eL eI) p3 a_self :: Rs) H30) => ?_)
    obtain ⟨h32, hf⟩ := hf
    refine v_dcO (M.sub (.cons 0 rfl (.cons 1 rfl (.refl _))) S29) h32 hl17 fun H34 (S33 : M (adoR E13 (pk acc12 x15 x23) :: da K u25 ((eL eI) x23) :: acR K p8 ((srtS' (ks a_self)).map eS) :: pt p_a_self (.ins (He.ga K "House") dx2 [("signs_by", (V.ref p3))]) :: pt dx2 (.own p_a_self) :: adR K iS (eL eI) p3 a_self :: Rs) H34) => ?_
    exact hp18 (_, _) _ hf (M.sub (.cons 0 rfl (.cons 1 rfl (.cons 1 rfl (.cons 1 rfl (.cons 1 rfl (.tl (.refl _))))))) S33)
  have S38 : M (R_House K p_a_self a_self :: adoR E13 acc12 :: acR K p8 ((srtS' (ks a_self)).map eS) :: Rs) H36 := R_House_close (M.sub (.cons 2 rfl (.cons 2 rfl (.cons 2 rfl (.refl _)))) S35)
  exact hk _ _ _ hf (M.sub (.cons 1 rfl (.cons 0 rfl (.tl (.refl _)))) S38)
def p_House_drop (a_self : ((List (Str × (List Int))))) (a_name : Str) (X : Ex → ((List (Str × (List Int)))) → Prop) (P : ((List (Str × (List Int)))) → Prop) : Prop := p_is_name a_name fun x1 => p_wanted 0 x1 (fun x9 => X x9 a_self) fun _u5 => p_House_need_file a_self a_name (fun x20 => X x20 a_self) fun _u16 => ∃ x33, lk a_self a_name = some x33 ∧ P (dk a_self a_name)
def sp_House_drop (K : PySem.W.Frag) : Sp := fun vs H Q E => ∃ (Rs : List Res) (p_a_self : Addr) (a_self : ((List (Str × (List Int))))) (a_name : Str) (X : Ex → ((List (Str × (List Int)))) → Prop) (P : ((List (Str × (List Int)))) → Prop), vs = [(V.ref p_a_self), (V.str a_name)] ∧ M (R_House K p_a_self a_self :: Rs) H ∧ p_House_drop a_self a_name X P ∧ (∀ (x : Ex) (m0 : ((List (Str × (List Int))))) (d : Addr) (v : V) H', X x m0 → M (pt d (.xd [(x.fld, v)]) :: da K v x.val :: R_House K p_a_self m0 :: Rs) H' → E (.ref (He.ga K x.cls)) (some d) H') ∧ ∀ (m0 : ((List (Str × (List Int))))) H', P m0 → M (R_House K p_a_self m0 :: Rs) H' → Q .non H'
theorem len_House_drop {K : PySem.W.Frag} (vs : List V) (H : Hp) (Q : VK) (E : XK) (h : sp_House_drop K vs H Q E) : vs.length = 2 := by
  obtain ⟨Rs, p_a_self, a_self, a_name, X, P, rfl, _⟩ := h
  rfl
abbrev t_House_drop_2 (K : PySem.W.Frag) (W : WX) : TS := (tSeq (tDrop (tMethW W (He.ga K "House") "need_file" (sp_House_need_file K) [] (tVar 0) (tCons (tVar 1) tNil)))
  (tDrop (tDPop1 (tFld K (tVar 0) "signs_by") (tVar 1))))
abbrev t_House_drop_1 (K : PySem.W.Frag) (W : WX) : TS := (tSeq (tDrop (tCallW W (sp_wanted K) [] (tCons (tC (.int 0)) (tCons (tCall (sp_is_name K) [] E0 (tCons (tVar 1) tNil)) tNil))))
  (t_House_drop_2 K W))
abbrev t_House_drop (K : PySem.W.Frag) (W : WX) : TS := (t_House_drop_1 K W)
theorem pure_House_drop {K : PySem.W.Frag} (T : TxC K) (vs : List V) (H : Hp) (Q : VK) (E : XK) (h : sp_House_drop K vs H Q E) : t_House_drop K (WT E) { nx := fun _ H' => Q .non H', rt := Q } (L2.start ["self", "name"] vs) H := by
  obtain ⟨Rs, p_a_self, a_self, a_name, X, P, rfl, S0, hf, hX, hk⟩ := h
  show t_House_drop K (WT E) _ [some (V.ref p_a_self), some (V.str a_name)] H
  refine g_seq (g_drop (g_callW (g_cons (g_c (g_cons (g_call (g_cons (g_var rfl (g_nil (⟨_, _, _, rfl, S0, hf, fun x1 H3 hf (S2 : M (R_House K p_a_self a_self :: Rs) H3) => ?_⟩))))))))))
  refine g_nil (⟨_, _, _, _, _, rfl, S2, hf, fun x9 d10 v11 H13 hf (S12 : M (pt d10 (.xd [(x9.fld, v11)]) :: da K v11 x9.val :: R_House K p_a_self a_self :: Rs) H13) => ?_, fun _u5 H7 hf (S6 : M (R_House K p_a_self a_self :: Rs) H7) => ?_⟩)
  ·
    exact hX x9 _ d10 v11 _ hf (M.sub (.cons 0 rfl (.cons 0 rfl (.cons 0 rfl (.refl _)))) S12)
  refine g_nx (g_seq (g_drop (g_meth (g_var rfl (v_R_House S6 0 rfl (fun _ _ => rfl) (g_cons (g_var rfl (g_nil (⟨_, _, _, _, _, _, rfl, (M.at S6 0 rfl), hf, fun x20 d21 v22 H24 hf (S23 : M (pt d21 (.xd [(x20.fld, v22)]) :: da K v22 x20.val :: R_House K p_a_self a_self :: Rs) H24) => ?_, fun _u16 H18 hf (S17 : M (R_House K p_a_self a_self :: Rs) H18) => ?_⟩)))))))))
  ·
    exact hX x20 _ d21 v22 _ hf (M.sub (.cons 0 rfl (.cons 0 rfl (.cons 0 rfl (.refl _)))) S23)
  obtain ⟨dx28, p29, (S27 : M (pt p_a_self (.ins (He.ga K "House") dx28 [("signs_by", (V.ref p29))]) :: pt dx28 (.own p_a_self) :: adR K iS (eL eI) p29 a_self :: Rs) H18)⟩ := R_House_open (S17.at 0 rfl)
  refine g_nx (g_drop (g_dpop (g_fld (g_var rfl (v_fld (S27.got 0 rfl) T.cl_House T.na_House_signs_by rfl (v_dpopA S27 2 rfl (g_var rfl ?_)))))))
  obtain ⟨x33, h34, hf⟩ := hf
  refine v_popAS S27 2 rfl h34 fun u35 H37 (S36 : M (da K u35 ((eL eI) x33) :: adR K iS (eL eI) p29 (dk a_self a_name) :: pt p_a_self (.ins (He.ga K "House") dx28 [("signs_by", (V.ref p29))]) :: pt dx28 (.own p_a_self) :: Rs) H37) => ?_
  have S40 : M (R_House K p_a_self (dk a_self a_name) :: da K u35 ((eL eI) x33) :: Rs) H37 := R_House_close (M.sub (.cons 2 rfl (.cons 2 rfl (.cons 1 rfl (.refl _)))) S36)
  exact hk _ _ hf (M.sub (.cons 0 rfl (.tl (.refl _))) S40)
def p_House_move (a_self : ((List (Str × (List Int))))) (a_name : Str) (a_new : Str) (X : Ex → ((List (Str × (List Int)))) → Prop) (P : ((List (Str × (List Int)))) → Prop) : Prop := p_is_name a_name fun x1 => p_wanted 0 x1 (fun x9 => X x9 a_self) fun _u5 => p_is_name a_new fun x16 => p_wanted 1 x16 (fun x24 => X x24 a_self) fun _u20 => p_House_need_file a_self a_name (fun x35 => X x35 a_self) fun _u31 => if ((lk a_self a_new).isSome) = true then (X (Ex.There (eS a_new)) a_self) else (∃ x56, lk a_self a_name = some x56 ∧ ((dk a_self a_name)).length < 100000 ∧ P (pk (dk a_self a_name) a_new x56))
def sp_House_move (K : PySem.W.Frag) : Sp := fun vs H Q E => ∃ (Rs : List Res) (p_a_self : Addr) (a_self : ((List (Str × (List Int))))) (a_name : Str) (a_new : Str) (X : Ex → ((List (Str × (List Int)))) → Prop) (P : ((List (Str × (List Int)))) → Prop), vs = [(V.ref p_a_self), (V.str a_name), (V.str a_new)] ∧ M (R_House K p_a_self a_self :: Rs) H ∧ p_House_move a_self a_name a_new X P ∧ (∀ (x : Ex) (m0 : ((List (Str × (List Int))))) (d : Addr) (v : V) H', X x m0 → M (pt d (.xd [(x.fld, v)]) :: da K v x.val :: R_House K p_a_self m0 :: Rs) H' → E (.ref (He.ga K x.cls)) (some d) H') ∧ ∀ (m0 : ((List (Str × (List Int))))) H', P m0 → M (R_House K p_a_self m0 :: Rs) H' → Q .non H'
theorem len_House_move {K : PySem.W.Frag} (vs : List V) (H : Hp) (Q : VK) (E : XK) (h : sp_House_move K vs H Q E) : vs.length = 3 := by
  obtain ⟨Rs, p_a_self, a_self, a_name, a_new, X, P, rfl, _⟩ := h
  rfl
abbrev t_House_move_4 (K : PySem.W.Frag) (W : WX) : TS := (tSeq (tIfS (tTest (tOp (uIn K) (tVar 2) (tFld K (tVar 0) "signs_by"))) (tRz W (He.ga K "There") "thing" (tVar 2)) tNext)
  (tAsg (tDPop1 (tFld K (tVar 0) "signs_by") (tVar 1)) (gSub (tFld K (tVar 0) "signs_by") (tVar 2) uSet)))
abbrev t_House_move_3 (K : PySem.W.Frag) (W : WX) : TS := (tSeq (tDrop (tMethW W (He.ga K "House") "need_file" (sp_House_need_file K) [] (tVar 0) (tCons (tVar 1) tNil)))
  (t_House_move_4 K W))
abbrev t_House_move_2 (K : PySem.W.Frag) (W : WX) : TS := (tSeq (tDrop (tCallW W (sp_wanted K) [] (tCons (tC (.int 1)) (tCons (tCall (sp_is_name K) [] E0 (tCons (tVar 2) tNil)) tNil))))
  (t_House_move_3 K W))
abbrev t_House_move_1 (K : PySem.W.Frag) (W : WX) : TS := (tSeq (tDrop (tCallW W (sp_wanted K) [] (tCons (tC (.int 0)) (tCons (tCall (sp_is_name K) [] E0 (tCons (tVar 1) tNil)) tNil))))
  (t_House_move_2 K W))
abbrev t_House_move (K : PySem.W.Frag) (W : WX) : TS := (t_House_move_1 K W)
theorem pure_House_move {K : PySem.W.Frag} (T : TxC K) (vs : List V) (H : Hp) (Q : VK) (E : XK) (h : sp_House_move K vs H Q E) : t_House_move K (WT E) { nx := fun _ H' => Q .non H', rt := Q } (L2.start ["self", "name", "new"] vs) H := by
  obtain ⟨Rs, p_a_self, a_self, a_name, a_new, X, P, rfl, S0, hf, hX, hk⟩ := h
  show t_House_move K (WT E) _ [some (V.ref p_a_self), some (V.str a_name), some (V.str a_new)] H
  refine g_seq (g_drop (g_callW (g_cons (g_c (g_cons (g_call (g_cons (g_var rfl (g_nil (⟨_, _, _, rfl, S0, hf, fun x1 H3 hf (S2 : M (R_House K p_a_self a_self :: Rs) H3) => ?_⟩))))))))))
  refine g_nil (⟨_, _, _, _, _, rfl, S2, hf, fun x9 d10 v11 H13 hf (S12 : M (pt d10 (.xd [(x9.fld, v11)]) :: da K v11 x9.val :: R_House K p_a_self a_self :: Rs) H13) => ?_, fun _u5 H7 hf (S6 : M (R_House K p_a_self a_self :: Rs) H7) => ?_⟩)
  ·
    exact hX x9 _ d10 v11 _ hf (M.sub (.cons 0 rfl (.cons 0 rfl (.cons 0 rfl (.refl _)))) S12)
  refine g_nx (g_seq (g_drop (g_callW (g_cons (g_c (g_cons (g_call (g_cons (g_var rfl (g_nil (⟨_, _, _, rfl, S6, hf, fun x16 H18 hf (S17 : M (R_House K p_a_self a_self :: Rs) H18) => ?_⟩)))))))))))
  refine g_nil (⟨_, _, _, _, _, rfl, S17, hf, fun x24 d25 v26 H28 hf (S27 : M (pt d25 (.xd [(x24.fld, v26)]) :: da K v26 x24.val :: R_House K p_a_self a_self :: Rs) H28) => ?_, fun _u20 H22 hf (S21 : M (R_House K p_a_self a_self :: Rs) H22) => ?_⟩)
  ·
    exact hX x24 _ d25 v26 _ hf (M.sub (.cons 0 rfl (.cons 0 rfl (.cons 0 rfl (.refl _)))) S27)
  refine g_nx (g_seq (g_drop (g_meth (g_var rfl (v_R_House S21 0 rfl (fun _ _ => rfl) (g_cons (g_var rfl (g_nil (⟨_, _, _, _, _, _, rfl, (M.at S21 0 rfl), hf, fun x35 d36 v37 H39 hf (S38 : M (pt d36 (.xd [(x35.fld, v37)]) :: da K v37 x35.val :: R_House K p_a_self a_self :: Rs) H39) => ?_, fun _u31 H33 hf (S32 : M (R_House K p_a_self a_self :: Rs) H33) => ?_⟩)))))))))
  ·
    exact hX x35 _ d36 v37 _ hf (M.sub (.cons 0 rfl (.cons 0 rfl (.cons 0 rfl (.refl _)))) S38)
  obtain ⟨dx43, p44, (S42 : M (pt p_a_self (.ins (He.ga K "House") dx43 [("signs_by", (V.ref p44))]) :: pt dx43 (.own p_a_self) :: adR K iS (eL eI) p44 a_self :: Rs) H33)⟩ := R_House_open (S32.at 0 rfl)
  refine g_nx (g_seq (g_if (g_test (g_op (g_var rfl (g_fld (g_var rfl (v_fld (S42.got 0 rfl) T.cl_House T.na_House_signs_by rfl (v_indS S42 2 rfl (g_bl (v_iff hf (fun _ hf => ?_) (fun _ hf => ?_))))))))))))
  ·
    refine g_rz (g_var rfl ?_)
    have S48 : M (da K (V.str a_new) (eS a_new) :: pt p_a_self (.ins (He.ga K "House") dx43 [("signs_by", (V.ref p44))]) :: pt dx43 (.own p_a_self) :: adR K iS (eL eI) p44 a_self :: Rs) H33 := M.addA S42 (EnF.all fun _ => .str _)
    refine v_rz S48 fun d50 H52 (S51 : M (pt d50 (.xd [("thing", (V.str a_new))]) :: da K (V.str a_new) (eS a_new) :: pt p_a_self (.ins (He.ga K "House") dx43 [("signs_by", (V.ref p44))]) :: pt dx43 (.own p_a_self) :: adR K iS (eL eI) p44 a_self :: Rs) H52) => ?_
    have S54 : M (R_House K p_a_self a_self :: pt d50 (.xd [("thing", (V.str a_new))]) :: da K (V.str a_new) (eS a_new) :: Rs) H52 := R_House_close (M.sub (.cons 2 rfl (.cons 2 rfl (.cons 2 rfl (.refl _)))) S51)
    exact hX (Ex.There (eS a_new)) _ d50 (V.str a_new) _ hf (M.sub (.cons 1 rfl (.cons 1 rfl (.cons 0 rfl (.refl _)))) S54)
  ·
    refine g_next (g_nx (g_asgX (g_dpop (g_fld (g_var rfl (v_fld (S42.got 0 rfl) T.cl_House T.na_House_signs_by rfl (v_dpopA S42 2 rfl (g_var rfl ?_))))))))
    obtain ⟨x56, h57, hf⟩ := hf
    refine v_popAS S42 2 rfl h57 fun u58 H60 (S59 : M (da K u58 ((eL eI) x56) :: adR K iS (eL eI) p44 (dk a_self a_name) :: pt p_a_self (.ins (He.ga K "House") dx43 [("signs_by", (V.ref p44))]) :: pt dx43 (.own p_a_self) :: Rs) H60) => ?_
    refine g_sub (g_fld (g_var rfl (v_fld (S59.got 2 rfl) T.cl_House T.na_House_signs_by rfl (g_var rfl ?_))))
    obtain ⟨h63, hf⟩ := hf
    refine v_putdS (e := (eL eI)) (x := x56) S59 1 rfl (EnF.at 0 rfl) h63 fun H65 (S64 : M (adR K iS (eL eI) p44 (pk (dk a_self a_name) a_new x56) :: da K u58 ((eL eI) x56) :: pt p_a_self (.ins (He.ga K "House") dx43 [("signs_by", (V.ref p44))]) :: pt dx43 (.own p_a_self) :: Rs) H65) => ?_
    have S67 : M (R_House K p_a_self (pk (dk a_self a_name) a_new x56) :: da K u58 ((eL eI) x56) :: Rs) H65 := R_House_close (M.sub (.cons 2 rfl (.cons 2 rfl (.cons 0 rfl (.refl _)))) S64)
    exact hk _ _ hf (M.sub (.cons 0 rfl (.tl (.refl _))) S67)
def p_l_refused (x : Ex) (P : (Str × PyData) → Prop) : Prop := match x with
  | .Wrong w => P (("Wrong" : Str), w)
  | .TooMany w => P (("TooMany" : Str), w)
  | .NoFile w => P (("NoFile" : Str), w)
  | .There w => P (("There" : Str), w)
def sp_l_refused (K : PySem.W.Frag) (a : Addr) (cls : Value) (d : Option Addr) (H : Hp) (Q : VK) : Prop := ∃ (Rs : List Res) (dd : Addr) (v : V) (x : Ex) (P : (Str × PyData) → Prop), cls = .ref (He.ga K x.cls) ∧ d = some dd ∧ M (pt dd (.xd [(x.fld, v)]) :: da K v x.val :: Rs) H ∧ p_l_refused x P ∧ ∀ (r : (Str × PyData)) (u : V) H', P r → M (da K u ((eP eS eA) r) :: pt dd (.xd [(x.fld, v)]) :: da K v x.val :: Rs) H' → Q u H'
abbrev t_l_refused_5 (K : PySem.W.Frag) (a : Addr) (cls : Value) (d : Option Addr) : TS := (tSeq (tIfS (tB (tCB (uIsX K a cls d) (tCons (tVar 0) (tCons (tC (.ref (He.ga K "TooMany"))) tNil)))) (tRet (tTup (tCons (tC (.str "TooMany")) (tCons (tXg K a cls d "most" (tVar 0)) tNil)))) tNext)
  (tRet (tTup (tCons (tC (.str "Wrong")) (tCons (tXg K a cls d "at" (tVar 0)) tNil)))))
abbrev t_l_refused_3 (K : PySem.W.Frag) (a : Addr) (cls : Value) (d : Option Addr) : TS := (tSeq (tIfS (tB (tCB (uIsX K a cls d) (tCons (tVar 0) (tCons (tC (.ref (He.ga K "There"))) tNil)))) (tRet (tTup (tCons (tC (.str "There")) (tCons (tXg K a cls d "thing" (tVar 0)) tNil)))) tNext)
  (t_l_refused_5 K a cls d))
abbrev t_l_refused_1 (K : PySem.W.Frag) (a : Addr) (cls : Value) (d : Option Addr) : TS := (tSeq (tIfS (tB (tCB (uIsX K a cls d) (tCons (tVar 0) (tCons (tC (.ref (He.ga K "NoFile"))) tNil)))) (tRet (tTup (tCons (tC (.str "NoFile")) (tCons (tXg K a cls d "name" (tVar 0)) tNil)))) tNext)
  (t_l_refused_3 K a cls d))
abbrev t_l_refused (K : PySem.W.Frag) (a : Addr) (cls : Value) (d : Option Addr) : TS := (t_l_refused_1 K a cls d)
theorem pure_l_refused {K : PySem.W.Frag} (T : TxC K) (a : Addr) (cls : Value) (d : Option Addr) (H : Hp) (Q : VK) (h : sp_l_refused K a cls d H Q) : t_l_refused K a cls d { nx := fun _ H' => Q .non H', rt := Q } (L2.start ["_law_e"] [.ref a]) H := by
  obtain ⟨Rs, dd, v, x, P, rfl, rfl, S0, hf, hk⟩ := h
  show t_l_refused K a _ _ _ [some (V.ref a)] H
  cases x with
  | Wrong w =>
    refine g_seq (g_if (g_B (g_cb (g_cons (g_var rfl (g_cons (g_c (g_nil (v_isX T.xc_Wrong (S0.got 0 rfl) T.xk_Wrong_NoFile (g_bl (v_ifF (g_next (g_nx (g_seq (g_if (g_B (g_cb (g_cons (g_var rfl (g_cons (g_c (g_nil (v_isX T.xc_Wrong (S0.got 0 rfl) T.xk_Wrong_There (g_bl (v_ifF (g_next (g_nx (g_seq (g_if (g_B (g_cb (g_cons (g_var rfl (g_cons (g_c (g_nil (v_isX T.xc_Wrong (S0.got 0 rfl) T.xk_Wrong_TooMany (g_bl (v_ifF (g_next (g_nx (g_ret (g_tup (g_cons (g_c (g_cons (g_xgv rfl T.xc_Wrong (chN_ok T.xn_Wrong_at) (S0.got 0 rfl) rfl (g_nil (v_tupq S0 (EnF.consA (EnF.all fun _ => .str _) (EnF.consA (EnF.at 1 rfl) EnF.nilA)) (len_ok rfl) fun p1 H3 (S2 : M (da K (V.ref p1) ((eP eS eA) (("Wrong" : Str), w)) :: pt dd (.xd [("at", v)]) :: da K v w :: Rs) H3) => ?_)))))))))))))))))))))))))))))))))))))))))))))))))
    exact hk _ _ _ hf (M.sub (.cons 0 rfl (.cons 0 rfl (.cons 0 rfl (.refl _)))) S2)
  | TooMany w =>
    refine g_seq (g_if (g_B (g_cb (g_cons (g_var rfl (g_cons (g_c (g_nil (v_isX T.xc_TooMany (S0.got 0 rfl) T.xk_TooMany_NoFile (g_bl (v_ifF (g_next (g_nx (g_seq (g_if (g_B (g_cb (g_cons (g_var rfl (g_cons (g_c (g_nil (v_isX T.xc_TooMany (S0.got 0 rfl) T.xk_TooMany_There (g_bl (v_ifF (g_next (g_nx (g_seq (g_if (g_B (g_cb (g_cons (g_var rfl (g_cons (g_c (g_nil (v_isX T.xc_TooMany (S0.got 0 rfl) T.xk_TooMany_TooMany (g_bl (v_ifT (g_ret (g_tup (g_cons (g_c (g_cons (g_xgv rfl T.xc_TooMany (chN_ok T.xn_TooMany_most) (S0.got 0 rfl) rfl (g_nil (v_tupq S0 (EnF.consA (EnF.all fun _ => .str _) (EnF.consA (EnF.at 1 rfl) EnF.nilA)) (len_ok rfl) fun p5 H7 (S6 : M (da K (V.ref p5) ((eP eS eA) (("TooMany" : Str), w)) :: pt dd (.xd [("most", v)]) :: da K v w :: Rs) H7) => ?_)))))))))))))))))))))))))))))))))))))))))))))))
    exact hk _ _ _ hf (M.sub (.cons 0 rfl (.cons 0 rfl (.cons 0 rfl (.refl _)))) S6)
  | NoFile w =>
    refine g_seq (g_if (g_B (g_cb (g_cons (g_var rfl (g_cons (g_c (g_nil (v_isX T.xc_NoFile (S0.got 0 rfl) T.xk_NoFile_NoFile (g_bl (v_ifT (g_ret (g_tup (g_cons (g_c (g_cons (g_xgv rfl T.xc_NoFile (chN_ok T.xn_NoFile_name) (S0.got 0 rfl) rfl (g_nil (v_tupq S0 (EnF.consA (EnF.all fun _ => .str _) (EnF.consA (EnF.at 1 rfl) EnF.nilA)) (len_ok rfl) fun p9 H11 (S10 : M (da K (V.ref p9) ((eP eS eA) (("NoFile" : Str), w)) :: pt dd (.xd [("name", v)]) :: da K v w :: Rs) H11) => ?_)))))))))))))))))))
    exact hk _ _ _ hf (M.sub (.cons 0 rfl (.cons 0 rfl (.cons 0 rfl (.refl _)))) S10)
  | There w =>
    refine g_seq (g_if (g_B (g_cb (g_cons (g_var rfl (g_cons (g_c (g_nil (v_isX T.xc_There (S0.got 0 rfl) T.xk_There_NoFile (g_bl (v_ifF (g_next (g_nx (g_seq (g_if (g_B (g_cb (g_cons (g_var rfl (g_cons (g_c (g_nil (v_isX T.xc_There (S0.got 0 rfl) T.xk_There_There (g_bl (v_ifT (g_ret (g_tup (g_cons (g_c (g_cons (g_xgv rfl T.xc_There (chN_ok T.xn_There_thing) (S0.got 0 rfl) rfl (g_nil (v_tupq S0 (EnF.consA (EnF.all fun _ => .str _) (EnF.consA (EnF.at 1 rfl) EnF.nilA)) (len_ok rfl) fun p13 H15 (S14 : M (da K (V.ref p13) ((eP eS eA) (("There" : Str), w)) :: pt dd (.xd [("thing", v)]) :: da K v w :: Rs) H15) => ?_)))))))))))))))))))))))))))))))))
    exact hk _ _ _ hf (M.sub (.cons 0 rfl (.cons 0 rfl (.cons 0 rfl (.refl _)))) S14)
def p_l_due (a_files : (List (Str × (List Int)))) (a_deed : PyData) (P : PyData → Prop) : Prop := ∃ x1 : (List PyData), a_deed = (eV eA) x1 ∧ ∃ x9 : (PyData × PyData), (cutL x1 none (some 2)) = [x9.1, x9.2] ∧ ∃ x19 : Str, x9.1 = eS x19 ∧ ∃ x23 : Str, x9.2 = eS x23 ∧ if ((decide (x19 = ("write" : Str))) && ((!(lk a_files x23).isSome) && (decide (((a_files).length : Int) = 8)))) = true then (P ((eP eS eI) (("TooMany" : Str), 8))) else (jn (fun k35 => if (([("drop" : Str), ("move" : Str), ("content" : Str)]).any fun y => decide (y = x19)) = true then (k35 (!(lk a_files x23).isSome)) else (k35 false)) fun c31 => if c31 = true then (P ((eP eS eS) (("NoFile" : Str), x23))) else (jn (fun k51 => if (decide (x19 = ("move" : Str))) = true then (∃ x53, atI x1 2 = some x53 ∧ ∃ x58 : Str, x53 = eS x58 ∧ k51 ((lk a_files x58).isSome)) else (k51 false)) fun c47 => if c47 = true then (∃ x64, atI x1 2 = some x64 ∧ P ((eP eS eA) (("There" : Str), x64))) else (P (eN ()))))
def sp_l_due (K : PySem.W.Frag) : Sp := fun vs H Q _ => ∃ (Rs : List Res) (p_a_files : Addr) (a_files : (List (Str × (List Int)))) (v_a_deed : V) (a_deed : PyData) (P : PyData → Prop), vs = [(V.ref p_a_files), v_a_deed] ∧ M (adR K iS (eL eI) p_a_files a_files :: da K v_a_deed (eA a_deed) :: Rs) H ∧ p_l_due a_files a_deed P ∧ ∀ (r : PyData) (v : V) H', P r → M (da K v (eA r) :: adR K iS (eL eI) p_a_files a_files :: Rs) H' → Q v H'
theorem len_l_due {K : PySem.W.Frag} (vs : List V) (H : Hp) (Q : VK) (E : XK) (h : sp_l_due K vs H Q E) : vs.length = 2 := by
  obtain ⟨Rs, p_a_files, a_files, v_a_deed, a_deed, P, rfl, _⟩ := h
  rfl
abbrev t_l_due_6 (K : PySem.W.Frag) : TS := (tSeq (tIfS (tAnd (tTest (tOp (uEq K) (tVar 2) (tC (.str "move")))) (tTest (tOp (uIn K) (tOp (uIx K) (tVar 1) (tC (.int 2))) (tVar 0)))) (tRet (tTup (tCons (tC (.str "There")) (tCons (tOp (uIx K) (tVar 1) (tC (.int 2))) tNil)))) tNext)
  (tRet (tC .non)))
abbrev t_l_due_4 (K : PySem.W.Frag) : TS := (tSeq (tIfS (tAnd (tTest (tOp (uIn K) (tVar 2) (tTup (tCons (tC (.str "drop")) (tCons (tC (.str "move")) (tCons (tC (.str "content")) tNil)))))) (tTest (tOp (uNotIn K) (tVar 3) (tVar 0)))) (tRet (tTup (tCons (tC (.str "NoFile")) (tCons (tVar 3) tNil)))) tNext)
  (t_l_due_6 K))
abbrev t_l_due_2 (K : PySem.W.Frag) : TS := (tSeq (tIfS (tAnd (tTest (tOp (uEq K) (tVar 2) (tC (.str "write")))) (tAnd (tTest (tOp (uNotIn K) (tVar 3) (tVar 0))) (tTest (tOp (uEq K) (tCB (uLen K) (tCons (tVar 0) tNil)) (tC (.int 8)))))) (tRet (tTup (tCons (tC (.str "TooMany")) (tCons (tC (.int 8)) tNil)))) tNext)
  (t_l_due_4 K))
abbrev t_l_due_1 (K : PySem.W.Frag) : TS := (tSeq (tAsg (tSl (rSlA K) (tVar 1) tNoPart (tPart (tC (.int 2)))) (gTup K 2 (gCons (gName 2) (gCons (gName 3) gNil))))
  (t_l_due_2 K))
abbrev t_l_due (K : PySem.W.Frag) : TS := (t_l_due_1 K)
theorem pure_l_due {K : PySem.W.Frag} (vs : List V) (H : Hp) (Q : VK) (E : XK) (h : sp_l_due K vs H Q E) : t_l_due K { nx := fun _ H' => Q .non H', rt := Q } (L2.start ["_law_files", "_law_deed", "_law_word", "_law_name"] vs) H := by
  obtain ⟨Rs, p_a_files, a_files, v_a_deed, a_deed, P, rfl, S0, hf, hk⟩ := h
  show t_l_due K _ [some (V.ref p_a_files), some v_a_deed, none, none] H
  refine g_seq (g_asgX (g_sl (g_var rfl (g_noPart (g_part (g_c (g_int ?_)))))))
  obtain ⟨x1, h2, hf⟩ := hf
  have S3 := M.cstA S0 1 rfl h2
  refine v_slA S3 0 rfl fun p5 H7 (S6 : M (da K p5 ((eV eA) (cutL x1 none (some 2))) :: da K v_a_deed ((eV eA) x1) :: adR K iS (eL eI) p_a_files a_files :: da K v_a_deed (eA a_deed) :: Rs) H7) => ?_
  obtain ⟨x9, h10, hf⟩ := hf
  have S11 : M (da K p5 ((eP eA eA) x9) :: da K p5 ((eV eA) (cutL x1 none (some 2))) :: da K v_a_deed ((eV eA) x1) :: adR K iS (eL eI) p_a_files a_files :: da K v_a_deed (eA a_deed) :: Rs) H7 := M.cstA S6 0 rfl (by rw [h10]; rfl)
  obtain ⟨a15, u13, u14, e_a15, q_a15, S16⟩ := S11.openP 0 rfl
  subst e_a15
  refine g_gtup q_a15 rfl (g_gcons ?_)
  obtain ⟨x19, h20, hf⟩ := hf
  have S21 := M.cstA S16 0 rfl h20
  obtain rfl := (S21.gotA 0 rfl).strV
  have S22 := S21.tl
  refine g_name (g_gcons ?_)
  obtain ⟨x23, h24, hf⟩ := hf
  have S25 := M.cstA S22 1 rfl h24
  obtain rfl := (S25.gotA 0 rfl).strV
  have S26 := S25.tl
  refine g_name (g_gnil (g_nx (g_seq (g_if (g_andP (c1 := (decide (x19 = ("write" : Str)))) (c2 := ((!(lk a_files x23).isSome) && (decide (((a_files).length : Int) = 8)))) (fun _ hq => ?_) (fun _ hq => ?_) ?_)))))
  ·
    refine g_test (g_op (g_var rfl (g_c (v_eqS (g_bl ?_)))))
    exact hq
  ·
    refine g_andP (c1 := (!(lk a_files x23).isSome)) (c2 := (decide (((a_files).length : Int) = 8))) (fun _ hq => ?_) (fun _ hq => ?_) ?_
    ·
      refine g_test (g_op (g_var rfl (g_var rfl (v_nindS S26 5 rfl (g_bl ?_)))))
      exact hq
    ·
      refine g_test (g_op (g_cb (g_cons (g_var rfl (g_nil (v_lend S26 5 rfl (g_c (v_eqI (g_bl ?_)))))))))
      exact hq
    exact hq
  refine v_iff hf (fun _ hf => ?_) (fun _ hf => ?_)
  ·
    refine g_ret (g_tup (g_cons (g_c (g_cons (g_c (g_nil (v_tupq S26 (EnF.consA (EnF.all fun _ => .str _) (EnF.consA (EnF.all fun _ => .int _) EnF.nilA)) (len_ok rfl) fun p27 H29 (S28 : M (da K (V.ref p27) ((eP eS eI) (("TooMany" : Str), 8)) :: da K (V.str x19) (eA x9.1) :: da K (V.str x23) (eA x9.2) :: da K (V.ref a15) ((eP eA eA) x9) :: da K (V.ref a15) ((eV eA) (cutL x1 none (some 2))) :: da K v_a_deed ((eV eA) x1) :: adR K iS (eL eI) p_a_files a_files :: da K v_a_deed (eA a_deed) :: Rs) H29) => ?_)))))))
    exact hk _ _ _ hf (M.sub (.cons 0 rfl (.cons 5 rfl (.tl (.tl (.tl (.tl (.tl (.tl (.refl _))))))))) S28)
  ·
    refine g_next (g_nx (g_seq (g_if ?_)))
    refine tt_cut hf (fun H => M (da K (V.str x19) (eA x9.1) :: da K (V.str x23) (eA x9.2) :: da K (V.ref a15) ((eP eA eA) x9) :: da K (V.ref a15) ((eV eA) (cutL x1 none (some 2))) :: da K v_a_deed ((eV eA) x1) :: adR K iS (eL eI) p_a_files a_files :: da K v_a_deed (eA a_deed) :: Rs) H) (fun kk32 P33 hP34 hf => ?_) ?_
    ·
      refine g_and (g_test (g_op (g_var rfl (g_tup (g_cons (g_c (g_cons (g_c (g_cons (g_c (g_nil (v_tupq S26 (EnF.consA (EnF.all fun _ => .str _) (EnF.consA (EnF.all fun _ => .str _) (EnF.consA (EnF.all fun _ => .str _) EnF.nilA))) (len_ok rfl) fun p37 H39 (S38 : M (da K (V.ref p37) ((eV eS) [("drop" : Str), ("move" : Str), ("content" : Str)]) :: da K (V.str x19) (eA x9.1) :: da K (V.str x23) (eA x9.2) :: da K (V.ref a15) ((eP eA eA) x9) :: da K (V.ref a15) ((eV eA) (cutL x1 none (some 2))) :: da K v_a_deed ((eV eA) x1) :: adR K iS (eL eI) p_a_files a_files :: da K v_a_deed (eA a_deed) :: Rs) H39) => ?_))))))))))))
      refine v_inV (M.gotA S38 0 rfl) (g_bl (v_iff hf (fun _ hf => ?_) (fun _ hf => ?_)))
      ·
        refine g_test (g_op (g_var rfl (g_var rfl (v_nindS S38 6 rfl (g_bl ?_)))))
        exact hP34 _ _ hf (M.sub (.cons 1 rfl (.cons 1 rfl (.cons 1 rfl (.cons 1 rfl (.cons 1 rfl (.cons 1 rfl (.cons 1 rfl (.tl (.refl _))))))))) S38)
      ·
        exact hP34 _ _ hf (M.sub (.cons 1 rfl (.cons 1 rfl (.cons 1 rfl (.cons 1 rfl (.cons 1 rfl (.cons 1 rfl (.cons 1 rfl (.tl (.refl _))))))))) S38)
    intro c31 H42 hf S41
    refine v_iff hf (fun _ hf => ?_) (fun _ hf => ?_)
    ·
      refine g_ret (g_tup (g_cons (g_c (g_cons (g_var rfl (g_nil (v_tupq S41 (EnF.consA (EnF.all fun _ => .str _) (EnF.consA (EnF.all fun _ => .str _) EnF.nilA)) (len_ok rfl) fun p43 H45 (S44 : M (da K (V.ref p43) ((eP eS eS) (("NoFile" : Str), x23)) :: da K (V.str x19) (eA x9.1) :: da K (V.str x23) (eA x9.2) :: da K (V.ref a15) ((eP eA eA) x9) :: da K (V.ref a15) ((eV eA) (cutL x1 none (some 2))) :: da K v_a_deed ((eV eA) x1) :: adR K iS (eL eI) p_a_files a_files :: da K v_a_deed (eA a_deed) :: Rs) H45) => ?_)))))))
      exact hk _ _ _ hf (M.sub (.cons 0 rfl (.cons 5 rfl (.tl (.tl (.tl (.tl (.tl (.tl (.refl _))))))))) S44)
    ·
      refine g_next (g_nx (g_seq (g_if ?_)))
      refine tt_cut hf (fun H => M (da K (V.str x19) (eA x9.1) :: da K (V.str x23) (eA x9.2) :: da K (V.ref a15) ((eP eA eA) x9) :: da K (V.ref a15) ((eV eA) (cutL x1 none (some 2))) :: da K v_a_deed ((eV eA) x1) :: adR K iS (eL eI) p_a_files a_files :: da K v_a_deed (eA a_deed) :: Rs) H) (fun kk48 P49 hP50 hf => ?_) ?_
      ·
        refine g_and (g_test (g_op (g_var rfl (g_c (v_eqS (g_bl (v_iff hf (fun _ hf => ?_) (fun _ hf => ?_))))))))
        ·
          refine g_test (g_op (g_op (g_var rfl (g_c ?_))))
          obtain ⟨x53, h54, hf⟩ := hf
          refine v_ixv S41 4 rfl h54 fun u55 S56 => ?_
          refine g_var rfl ?_
          obtain ⟨x58, h59, hf⟩ := hf
          have S60 := M.cstA S56 0 rfl h59
          obtain rfl := (S60.gotA 0 rfl).strV
          have S61 := S60.tl
          refine v_indS S61 6 rfl (g_bl ?_)
          exact hP50 _ _ hf (M.sub (.cons 1 rfl (.cons 1 rfl (.cons 1 rfl (.cons 1 rfl (.cons 1 rfl (.cons 1 rfl (.cons 1 rfl (.tl (.refl _))))))))) S61)
        ·
          exact hP50 _ _ hf (M.sub (.cons 0 rfl (.cons 0 rfl (.cons 0 rfl (.cons 0 rfl (.cons 0 rfl (.cons 0 rfl (.cons 0 rfl (.refl _)))))))) S41)
      intro c47 H63 hf S62
      refine v_iff hf (fun _ hf => ?_) (fun _ hf => ?_)
      ·
        refine g_ret (g_tup (g_cons (g_c (g_cons (g_op (g_var rfl (g_c ?_)))))))
        obtain ⟨x64, h65, hf⟩ := hf
        refine v_ixv S62 4 rfl h65 fun u66 S67 => ?_
        refine g_nil (v_tupq S67 (EnF.consA (EnF.all fun _ => .str _) (EnF.consA (EnF.at 0 rfl) EnF.nilA)) (len_ok rfl) fun p69 H71 (S70 : M (da K (V.ref p69) ((eP eS eA) (("There" : Str), x64)) :: da K u66 (eA x64) :: da K (V.str x19) (eA x9.1) :: da K (V.str x23) (eA x9.2) :: da K (V.ref a15) ((eP eA eA) x9) :: da K (V.ref a15) ((eV eA) (cutL x1 none (some 2))) :: da K v_a_deed ((eV eA) x1) :: adR K iS (eL eI) p_a_files a_files :: da K v_a_deed (eA a_deed) :: Rs) H71) => ?_)
        exact hk _ _ _ hf (M.sub (.cons 0 rfl (.cons 6 rfl (.tl (.tl (.tl (.tl (.tl (.tl (.tl (.refl _)))))))))) S70)
      ·
        refine g_next (g_nx (g_ret (g_c ?_)))
        have S73 : M (da K V.non (eN ()) :: da K (V.str x19) (eA x9.1) :: da K (V.str x23) (eA x9.2) :: da K (V.ref a15) ((eP eA eA) x9) :: da K (V.ref a15) ((eV eA) (cutL x1 none (some 2))) :: da K v_a_deed ((eV eA) x1) :: adR K iS (eL eI) p_a_files a_files :: da K v_a_deed (eA a_deed) :: Rs) H63 := M.addA S62 (EnF.all fun _ => .non)
        exact hk _ _ _ hf (M.sub (.cons 0 rfl (.cons 5 rfl (.tl (.tl (.tl (.tl (.tl (.tl (.refl _))))))))) S73)
def p_l_do (a_files : (List (Str × (List Int)))) (a_deed : PyData) (P : PyData → (List (Str × (List Int))) → Prop) : Prop := ∃ x1 : (List PyData), a_deed = (eV eA) x1 ∧ ∃ x9 : (PyData × PyData), (cutL x1 none (some 2)) = [x9.1, x9.2] ∧ ∃ x19 : Str, x9.1 = eS x19 ∧ ∃ x23 : Str, x9.2 = eS x23 ∧ if (decide (x19 = ("content" : Str))) = true then (∃ x27, lk a_files x23 = some x27 ∧ P ((eL eI) x27) a_files) else (jn (β := (List (Str × (List Int)))) (fun k39 => if (decide (x19 = ("write" : Str))) = true then (∃ x44, atI x1 2 = some x44 ∧ ∃ x49 : (List Int), x44 = (eL eI) x49 ∧ (a_files).length < 100000 ∧ k39 (pk a_files x23 x49)) else (k39 a_files)) fun s38 => jn (β := (List (Str × (List Int)))) (fun k66 => if (decide (x19 = ("drop" : Str))) = true then (∃ x71, lk s38 x23 = some x71 ∧ k66 (dk s38 x23)) else (k66 s38)) fun s65 => jn (β := (List (Str × (List Int)))) (fun k81 => if (decide (x19 = ("move" : Str))) = true then (∃ x86, lk s65 x23 = some x86 ∧ ∃ x93, atI x1 2 = some x93 ∧ ∃ x98 : Str, x93 = eS x98 ∧ ((dk s65 x23)).length < 100000 ∧ k81 (pk (dk s65 x23) x98 x86)) else (k81 s65)) fun s80 => jn (β := (List (Str × (List Int)))) (fun k109 => if (decide (x19 = ("become" : Str))) = true then (False) else (k109 s80)) fun s108 => P (eN ()) s108)
def sp_l_do (K : PySem.W.Frag) : Sp := fun vs H Q _ => ∃ (Rs : List Res) (p_a_files : Addr) (a_files : (List (Str × (List Int)))) (v_a_deed : V) (a_deed : PyData) (P : PyData → (List (Str × (List Int))) → Prop), vs = [(V.ref p_a_files), v_a_deed] ∧ M (adR K iS (eL eI) p_a_files a_files :: da K v_a_deed (eA a_deed) :: Rs) H ∧ p_l_do a_files a_deed P ∧ ∀ (r : PyData) (m1 : (List (Str × (List Int)))) (v : V) H', P r m1 → M (da K v (eA r) :: adR K iS (eL eI) p_a_files m1 :: Rs) H' → Q v H'
theorem len_l_do {K : PySem.W.Frag} (vs : List V) (H : Hp) (Q : VK) (E : XK) (h : sp_l_do K vs H Q E) : vs.length = 2 := by
  obtain ⟨Rs, p_a_files, a_files, v_a_deed, a_deed, P, rfl, _⟩ := h
  rfl
abbrev t_l_do_11 (K : PySem.W.Frag) : TS := (tSeq tNever
  tNever)
abbrev t_l_do_10 (K : PySem.W.Frag) : TS := (tSeq (tIfS (tTest (tOp (uEq K) (tVar 2) (tC (.str "become")))) (t_l_do_11 K) tNext)
  (tRet (tC .non)))
abbrev t_l_do_8 (K : PySem.W.Frag) : TS := (tSeq (tIfS (tTest (tOp (uEq K) (tVar 2) (tC (.str "move")))) (tAsg (tDPop1 (tVar 0) (tVar 3)) (gSub (tVar 0) (tOp (uIx K) (tVar 1) (tC (.int 2))) uSet)) tNext)
  (t_l_do_10 K))
abbrev t_l_do_6 (K : PySem.W.Frag) : TS := (tSeq (tIfS (tTest (tOp (uEq K) (tVar 2) (tC (.str "drop")))) (tDrop (tDPop1 (tVar 0) (tVar 3))) tNext)
  (t_l_do_8 K))
abbrev t_l_do_4 (K : PySem.W.Frag) : TS := (tSeq (tIfS (tTest (tOp (uEq K) (tVar 2) (tC (.str "write")))) (tAsg (tCB (rListOf K) (tCons (tOp (uIx K) (tVar 1) (tC (.int 2))) tNil)) (gSub (tVar 0) (tVar 3) uSet)) tNext)
  (t_l_do_6 K))
abbrev t_l_do_2 (K : PySem.W.Frag) : TS := (tSeq (tIfS (tTest (tOp (uEq K) (tVar 2) (tC (.str "content")))) (tRet (tCB (rListOf K) (tCons (tOp rIxK (tVar 0) (tVar 3)) tNil))) tNext)
  (t_l_do_4 K))
abbrev t_l_do_1 (K : PySem.W.Frag) : TS := (tSeq (tAsg (tSl (rSlA K) (tVar 1) tNoPart (tPart (tC (.int 2)))) (gTup K 2 (gCons (gName 2) (gCons (gName 3) gNil))))
  (t_l_do_2 K))
abbrev t_l_do (K : PySem.W.Frag) : TS := (t_l_do_1 K)
theorem pure_l_do {K : PySem.W.Frag} (vs : List V) (H : Hp) (Q : VK) (E : XK) (h : sp_l_do K vs H Q E) : t_l_do K { nx := fun _ H' => Q .non H', rt := Q } (L2.start ["_law_files", "_law_deed", "_law_word", "_law_name", "_law_one"] vs) H := by
  obtain ⟨Rs, p_a_files, a_files, v_a_deed, a_deed, P, rfl, S0, hf, hk⟩ := h
  show t_l_do K _ [some (V.ref p_a_files), some v_a_deed, none, none, none] H
  refine g_seq (g_asgX (g_sl (g_var rfl (g_noPart (g_part (g_c (g_int ?_)))))))
  obtain ⟨x1, h2, hf⟩ := hf
  have S3 := M.cstA S0 1 rfl h2
  refine v_slA S3 0 rfl fun p5 H7 (S6 : M (da K p5 ((eV eA) (cutL x1 none (some 2))) :: da K v_a_deed ((eV eA) x1) :: adR K iS (eL eI) p_a_files a_files :: da K v_a_deed (eA a_deed) :: Rs) H7) => ?_
  obtain ⟨x9, h10, hf⟩ := hf
  have S11 : M (da K p5 ((eP eA eA) x9) :: da K p5 ((eV eA) (cutL x1 none (some 2))) :: da K v_a_deed ((eV eA) x1) :: adR K iS (eL eI) p_a_files a_files :: da K v_a_deed (eA a_deed) :: Rs) H7 := M.cstA S6 0 rfl (by rw [h10]; rfl)
  obtain ⟨a15, u13, u14, e_a15, q_a15, S16⟩ := S11.openP 0 rfl
  subst e_a15
  refine g_gtup q_a15 rfl (g_gcons ?_)
  obtain ⟨x19, h20, hf⟩ := hf
  have S21 := M.cstA S16 0 rfl h20
  obtain rfl := (S21.gotA 0 rfl).strV
  have S22 := S21.tl
  refine g_name (g_gcons ?_)
  obtain ⟨x23, h24, hf⟩ := hf
  have S25 := M.cstA S22 1 rfl h24
  obtain rfl := (S25.gotA 0 rfl).strV
  have S26 := S25.tl
  refine g_name (g_gnil (g_nx (g_seq (g_if (g_test (g_op (g_var rfl (g_c (v_eqS (g_bl (v_iff hf (fun _ hf => ?_) (fun _ hf => ?_))))))))))))
  ·
    refine g_ret (g_cb (g_cons (g_op (g_var rfl (g_var rfl ?_)))))
    obtain ⟨x27, h28, hf⟩ := hf
    refine v_ixdS S26 5 rfl h28 fun u29 S30 => ?_
    refine g_nil (v_liN flI S30 (M.gotA S30 0 rfl) fun p32 H34 (S33 : M (acR K p32 (x27.map eI) :: da K u29 ((eL eI) x27) :: da K (V.str x19) (eA x9.1) :: da K (V.str x23) (eA x9.2) :: da K (V.ref a15) ((eP eA eA) x9) :: da K (V.ref a15) ((eV eA) (cutL x1 none (some 2))) :: da K v_a_deed ((eV eA) x1) :: adR K iS (eL eI) p_a_files a_files :: da K v_a_deed (eA a_deed) :: Rs) H34) => ?_)
    have S36 : M (da K (V.ref p32) ((eL eI) x27) :: da K u29 ((eL eI) x27) :: da K (V.str x19) (eA x9.1) :: da K (V.str x23) (eA x9.2) :: da K (V.ref a15) ((eP eA eA) x9) :: da K (V.ref a15) ((eV eA) (cutL x1 none (some 2))) :: da K v_a_deed ((eV eA) x1) :: adR K iS (eL eI) p_a_files a_files :: da K v_a_deed (eA a_deed) :: Rs) H34 := acR_fixL S33
    exact hk _ _ _ _ hf (M.sub (.cons 0 rfl (.cons 6 rfl (.tl (.tl (.tl (.tl (.tl (.tl (.tl (.refl _)))))))))) S36)
  ·
    refine g_next (g_nx (jn_cut (β := (List (Str × (List Int)))) hf (fun (s38 : (List (Str × (List Int)))) σ H' => σ = [some (V.ref p_a_files), some v_a_deed, some (V.str x19), some (V.str x23), none] ∧ M (adR K iS (eL eI) p_a_files s38 :: da K (V.str x19) (eA x9.1) :: da K (V.str x23) (eA x9.2) :: da K (V.ref a15) ((eP eA eA) x9) :: da K (V.ref a15) ((eV eA) (cutL x1 none (some 2))) :: da K v_a_deed ((eV eA) x1) :: da K v_a_deed (eA a_deed) :: Rs) H') (fun kk40 N41 hN42 hf => ?_) ?_))
    ·
      refine g_if (g_test (g_op (g_var rfl (g_c (v_eqS (g_bl (v_iff hf (fun _ hf => ?_) (fun _ hf => ?_))))))))
      ·
        refine g_asgX (g_cb (g_cons (g_op (g_var rfl (g_c ?_)))))
        obtain ⟨x44, h45, hf⟩ := hf
        refine v_ixv S26 4 rfl h45 fun u46 S47 => ?_
        refine g_nil ?_
        obtain ⟨x49, h50, hf⟩ := hf
        have S51 := M.cstA S47 0 rfl h50
        refine v_liN flI S51 (M.gotA S51 0 rfl) fun p53 H55 (S54 : M (acR K p53 (x49.map eI) :: da K u46 ((eL eI) x49) :: da K u46 (eA x44) :: da K (V.str x19) (eA x9.1) :: da K (V.str x23) (eA x9.2) :: da K (V.ref a15) ((eP eA eA) x9) :: da K (V.ref a15) ((eV eA) (cutL x1 none (some 2))) :: da K v_a_deed ((eV eA) x1) :: adR K iS (eL eI) p_a_files a_files :: da K v_a_deed (eA a_deed) :: Rs) H55) => ?_
        have S57 : M (da K (V.ref p53) ((eL eI) x49) :: da K u46 ((eL eI) x49) :: da K u46 (eA x44) :: da K (V.str x19) (eA x9.1) :: da K (V.str x23) (eA x9.2) :: da K (V.ref a15) ((eP eA eA) x9) :: da K (V.ref a15) ((eV eA) (cutL x1 none (some 2))) :: da K v_a_deed ((eV eA) x1) :: adR K iS (eL eI) p_a_files a_files :: da K v_a_deed (eA a_deed) :: Rs) H55 := acR_fixL S54
        refine g_sub (g_var rfl (g_var rfl ?_))
        obtain ⟨h59, hf⟩ := hf
        refine v_putdS (e := (eL eI)) (x := x49) S57 8 rfl (EnF.at 0 rfl) h59 fun H61 (S60 : M (adR K iS (eL eI) p_a_files (pk a_files x23 x49) :: da K (V.ref p53) ((eL eI) x49) :: da K u46 ((eL eI) x49) :: da K u46 (eA x44) :: da K (V.str x19) (eA x9.1) :: da K (V.str x23) (eA x9.2) :: da K (V.ref a15) ((eP eA eA) x9) :: da K (V.ref a15) ((eV eA) (cutL x1 none (some 2))) :: da K v_a_deed ((eV eA) x1) :: da K v_a_deed (eA a_deed) :: Rs) H61) => ?_
        exact hN42 _ _ _ hf ⟨rfl, (M.sub (.cons 0 rfl (.cons 3 rfl (.cons 3 rfl (.cons 3 rfl (.cons 3 rfl (.cons 3 rfl (.cons 3 rfl (.tl (.tl (.tl (.refl _))))))))))) S60)⟩
      ·
        refine g_next ?_
        exact hN42 _ _ _ hf ⟨rfl, (M.sub (.cons 5 rfl (.cons 0 rfl (.cons 0 rfl (.cons 0 rfl (.cons 0 rfl (.cons 0 rfl (.cons 0 rfl (.refl _)))))))) S26)⟩
    rintro s38 _ H64 hf ⟨rfl, S63⟩
    refine jn_cut (β := (List (Str × (List Int)))) hf (fun (s65 : (List (Str × (List Int)))) σ H' => σ = [some (V.ref p_a_files), some v_a_deed, some (V.str x19), some (V.str x23), none] ∧ M (adR K iS (eL eI) p_a_files s65 :: da K (V.str x19) (eA x9.1) :: da K (V.str x23) (eA x9.2) :: da K (V.ref a15) ((eP eA eA) x9) :: da K (V.ref a15) ((eV eA) (cutL x1 none (some 2))) :: da K v_a_deed ((eV eA) x1) :: da K v_a_deed (eA a_deed) :: Rs) H') (fun kk67 N68 hN69 hf => ?_) ?_
    ·
      refine g_if (g_test (g_op (g_var rfl (g_c (v_eqS (g_bl (v_iff hf (fun _ hf => ?_) (fun _ hf => ?_))))))))
      ·
        refine g_drop (g_dpop (g_var rfl (v_dpopA S63 0 rfl (g_var rfl ?_))))
        obtain ⟨x71, h72, hf⟩ := hf
        refine v_popAS S63 0 rfl h72 fun u73 H75 (S74 : M (da K u73 ((eL eI) x71) :: adR K iS (eL eI) p_a_files (dk s38 x23) :: da K (V.str x19) (eA x9.1) :: da K (V.str x23) (eA x9.2) :: da K (V.ref a15) ((eP eA eA) x9) :: da K (V.ref a15) ((eV eA) (cutL x1 none (some 2))) :: da K v_a_deed ((eV eA) x1) :: da K v_a_deed (eA a_deed) :: Rs) H75) => ?_
        exact hN69 _ _ _ hf ⟨rfl, (M.sub (.cons 1 rfl (.cons 1 rfl (.cons 1 rfl (.cons 1 rfl (.cons 1 rfl (.cons 1 rfl (.cons 1 rfl (.tl (.refl _))))))))) S74)⟩
      ·
        refine g_next ?_
        exact hN69 _ _ _ hf ⟨rfl, (M.sub (.cons 0 rfl (.cons 0 rfl (.cons 0 rfl (.cons 0 rfl (.cons 0 rfl (.cons 0 rfl (.cons 0 rfl (.refl _)))))))) S63)⟩
    rintro s65 _ H79 hf ⟨rfl, S78⟩
    refine jn_cut (β := (List (Str × (List Int)))) hf (fun (s80 : (List (Str × (List Int)))) σ H' => σ = [some (V.ref p_a_files), some v_a_deed, some (V.str x19), some (V.str x23), none] ∧ M (adR K iS (eL eI) p_a_files s80 :: da K (V.str x19) (eA x9.1) :: da K (V.str x23) (eA x9.2) :: da K (V.ref a15) ((eP eA eA) x9) :: da K (V.ref a15) ((eV eA) (cutL x1 none (some 2))) :: da K v_a_deed ((eV eA) x1) :: da K v_a_deed (eA a_deed) :: Rs) H') (fun kk82 N83 hN84 hf => ?_) ?_
    ·
      refine g_if (g_test (g_op (g_var rfl (g_c (v_eqS (g_bl (v_iff hf (fun _ hf => ?_) (fun _ hf => ?_))))))))
      ·
        refine g_asgX (g_dpop (g_var rfl (v_dpopA S78 0 rfl (g_var rfl ?_))))
        obtain ⟨x86, h87, hf⟩ := hf
        refine v_popAS S78 0 rfl h87 fun u88 H90 (S89 : M (da K u88 ((eL eI) x86) :: adR K iS (eL eI) p_a_files (dk s65 x23) :: da K (V.str x19) (eA x9.1) :: da K (V.str x23) (eA x9.2) :: da K (V.ref a15) ((eP eA eA) x9) :: da K (V.ref a15) ((eV eA) (cutL x1 none (some 2))) :: da K v_a_deed ((eV eA) x1) :: da K v_a_deed (eA a_deed) :: Rs) H90) => ?_
        refine g_sub (g_var rfl (g_op (g_var rfl (g_c ?_))))
        obtain ⟨x93, h94, hf⟩ := hf
        refine v_ixv S89 6 rfl h94 fun u95 S96 => ?_
        obtain ⟨x98, h99, hf⟩ := hf
        have S100 := M.cstA S96 0 rfl h99
        obtain rfl := (S100.gotA 0 rfl).strV
        have S101 := S100.tl
        obtain ⟨h102, hf⟩ := hf
        refine v_putdS (e := (eL eI)) (x := x86) S101 2 rfl (EnF.at 1 rfl) h102 fun H104 (S103 : M (adR K iS (eL eI) p_a_files (pk (dk s65 x23) x98 x86) :: da K (V.str x98) (eA x93) :: da K u88 ((eL eI) x86) :: da K (V.str x19) (eA x9.1) :: da K (V.str x23) (eA x9.2) :: da K (V.ref a15) ((eP eA eA) x9) :: da K (V.ref a15) ((eV eA) (cutL x1 none (some 2))) :: da K v_a_deed ((eV eA) x1) :: da K v_a_deed (eA a_deed) :: Rs) H104) => ?_
        exact hN84 _ _ _ hf ⟨rfl, (M.sub (.cons 0 rfl (.cons 2 rfl (.cons 2 rfl (.cons 2 rfl (.cons 2 rfl (.cons 2 rfl (.cons 2 rfl (.tl (.tl (.refl _)))))))))) S103)⟩
      ·
        refine g_next ?_
        exact hN84 _ _ _ hf ⟨rfl, (M.sub (.cons 0 rfl (.cons 0 rfl (.cons 0 rfl (.cons 0 rfl (.cons 0 rfl (.cons 0 rfl (.cons 0 rfl (.refl _)))))))) S78)⟩
    rintro s80 _ H107 hf ⟨rfl, S106⟩
    refine jn_cut (β := (List (Str × (List Int)))) hf (fun (s108 : (List (Str × (List Int)))) σ H' => ∃ (o114 : Option V), σ = [some (V.ref p_a_files), some v_a_deed, some (V.str x19), some (V.str x23), o114] ∧ M (adR K iS (eL eI) p_a_files s108 :: da K (V.str x19) (eA x9.1) :: da K (V.str x23) (eA x9.2) :: da K (V.ref a15) ((eP eA eA) x9) :: da K (V.ref a15) ((eV eA) (cutL x1 none (some 2))) :: da K v_a_deed ((eV eA) x1) :: da K v_a_deed (eA a_deed) :: Rs) H') (fun kk110 N111 hN112 hf => ?_) ?_
    ·
      refine g_if (g_test (g_op (g_var rfl (g_c (v_eqS (g_bl (v_iff hf (fun _ hf => ?_) (fun _ hf => ?_))))))))
      ·
        exact hf.elim
      ·
        refine g_next ?_
        exact hN112 _ _ _ hf ⟨_, rfl, (M.sub (.cons 0 rfl (.cons 0 rfl (.cons 0 rfl (.cons 0 rfl (.cons 0 rfl (.cons 0 rfl (.cons 0 rfl (.refl _)))))))) S106)⟩
    rintro s108 _ H116 hf ⟨o114, rfl, S115⟩
    refine g_ret (g_c ?_)
    have S117 : M (da K V.non (eN ()) :: adR K iS (eL eI) p_a_files s108 :: da K (V.str x19) (eA x9.1) :: da K (V.str x23) (eA x9.2) :: da K (V.ref a15) ((eP eA eA) x9) :: da K (V.ref a15) ((eV eA) (cutL x1 none (some 2))) :: da K v_a_deed ((eV eA) x1) :: da K v_a_deed (eA a_deed) :: Rs) H116 := M.addA S115 (EnF.all fun _ => .non)
    exact hk _ _ _ _ hf (M.sub (.cons 0 rfl (.cons 0 rfl (.tl (.tl (.tl (.tl (.tl (.tl (.refl _))))))))) S117)
def p_l_call (a_house : ((List (Str × (List Int))))) (a_deed : PyData) (X : Ex → ((List (Str × (List Int)))) → Prop) (P : PyData → ((List (Str × (List Int)))) → Prop) : Prop := ∃ x1, anyAt a_deed 0 = some x1 ∧ ∃ x6 : Str, x1 = eS x6 ∧ if (decide (x6 = ("write" : Str))) = true then (∃ x10, anyAt a_deed 1 = some x10 ∧ ∃ x15, anyAt a_deed 2 = some x15 ∧ ∃ x20 : Str, x10 = eS x20 ∧ ∃ x24 : (List Int), x15 = (eL eI) x24 ∧ p_House_write a_house x20 x24 (fun x34 m33 => X x34 m33) fun m29 => P (eN ()) m29) else (∃ x43, anyAt a_deed 0 = some x43 ∧ ∃ x48 : Str, x43 = eS x48 ∧ if (decide (x48 = ("drop" : Str))) = true then (∃ x52, anyAt a_deed 1 = some x52 ∧ ∃ x57 : Str, x52 = eS x57 ∧ p_House_drop a_house x57 (fun x66 m65 => X x66 m65) fun m61 => P (eN ()) m61) else (∃ x75, anyAt a_deed 0 = some x75 ∧ ∃ x80 : Str, x75 = eS x80 ∧ if (decide (x80 = ("move" : Str))) = true then (∃ x84, anyAt a_deed 1 = some x84 ∧ ∃ x89, anyAt a_deed 2 = some x89 ∧ ∃ x94 : Str, x84 = eS x94 ∧ ∃ x98 : Str, x89 = eS x98 ∧ p_House_move a_house x94 x98 (fun x107 m106 => X x107 m106) fun m102 => P (eN ()) m102) else (∃ x116, anyAt a_deed 0 = some x116 ∧ ∃ x121 : Str, x116 = eS x121 ∧ if (decide (x121 = ("become" : Str))) = true then (False) else (∃ x125, anyAt a_deed 1 = some x125 ∧ ∃ x130 : Str, x125 = eS x130 ∧ p_House_content a_house x130 (fun x139 => X x139 a_house) fun x134 => P ((eL eI) x134) a_house))))
def sp_l_call (K : PySem.W.Frag) : Sp := fun vs H Q E => ∃ (Rs : List Res) (p_a_house : Addr) (a_house : ((List (Str × (List Int))))) (v_a_deed : V) (a_deed : PyData) (X : Ex → ((List (Str × (List Int)))) → Prop) (P : PyData → ((List (Str × (List Int)))) → Prop), vs = [(V.ref p_a_house), v_a_deed] ∧ M (R_House K p_a_house a_house :: da K v_a_deed (eA a_deed) :: Rs) H ∧ p_l_call a_house a_deed X P ∧ (∀ (x : Ex) (m1 : ((List (Str × (List Int))))) (d : Addr) (v : V) H', X x m1 → M (pt d (.xd [(x.fld, v)]) :: da K v x.val :: R_House K p_a_house m1 :: Rs) H' → E (.ref (He.ga K x.cls)) (some d) H') ∧ ∀ (r : PyData) (m1 : ((List (Str × (List Int))))) (v : V) H', P r m1 → M (da K v (eA r) :: R_House K p_a_house m1 :: Rs) H' → Q v H'
theorem len_l_call {K : PySem.W.Frag} (vs : List V) (H : Hp) (Q : VK) (E : XK) (h : sp_l_call K vs H Q E) : vs.length = 2 := by
  obtain ⟨Rs, p_a_house, a_house, v_a_deed, a_deed, X, P, rfl, _⟩ := h
  rfl
abbrev t_l_call_7 (K : PySem.W.Frag) (W : WX) : TS := (tSeq (tIfS (tTest (tOp (uEq K) (tOp (uIx K) (tVar 1) (tC (.int 0))) (tC (.str "become")))) tNever tNext)
  (tRet (tMethW W (He.ga K "House") "content" (sp_House_content K) [] (tVar 0) (tCons (tOp (uIx K) (tVar 1) (tC (.int 1))) tNil))))
abbrev t_l_call_5 (K : PySem.W.Frag) (W : WX) : TS := (tSeq (tIfS (tTest (tOp (uEq K) (tOp (uIx K) (tVar 1) (tC (.int 0))) (tC (.str "move")))) (tRet (tMethW W (He.ga K "House") "move" (sp_House_move K) [] (tVar 0) (tCons (tOp (uIx K) (tVar 1) (tC (.int 1))) (tCons (tOp (uIx K) (tVar 1) (tC (.int 2))) tNil)))) tNext)
  (t_l_call_7 K W))
abbrev t_l_call_3 (K : PySem.W.Frag) (W : WX) : TS := (tSeq (tIfS (tTest (tOp (uEq K) (tOp (uIx K) (tVar 1) (tC (.int 0))) (tC (.str "drop")))) (tRet (tMethW W (He.ga K "House") "drop" (sp_House_drop K) [] (tVar 0) (tCons (tOp (uIx K) (tVar 1) (tC (.int 1))) tNil))) tNext)
  (t_l_call_5 K W))
abbrev t_l_call_1 (K : PySem.W.Frag) (W : WX) : TS := (tSeq (tIfS (tTest (tOp (uEq K) (tOp (uIx K) (tVar 1) (tC (.int 0))) (tC (.str "write")))) (tRet (tMethW W (He.ga K "House") "write" (sp_House_write K) [] (tVar 0) (tCons (tOp (uIx K) (tVar 1) (tC (.int 1))) (tCons (tOp (uIx K) (tVar 1) (tC (.int 2))) tNil)))) tNext)
  (t_l_call_3 K W))
abbrev t_l_call (K : PySem.W.Frag) (W : WX) : TS := (t_l_call_1 K W)
theorem pure_l_call {K : PySem.W.Frag} (T : TxC K) (vs : List V) (H : Hp) (Q : VK) (E : XK) (h : sp_l_call K vs H Q E) : t_l_call K (WT E) { nx := fun _ H' => Q .non H', rt := Q } (L2.start ["_law_house", "_law_deed"] vs) H := by
  obtain ⟨Rs, p_a_house, a_house, v_a_deed, a_deed, X, P, rfl, S0, hf, hX, hk⟩ := h
  show t_l_call K (WT E) _ [some (V.ref p_a_house), some v_a_deed] H
  refine g_seq (g_if (g_test (g_op (g_op (g_var rfl (g_c ?_))))))
  obtain ⟨x1, h2, hf⟩ := hf
  refine v_ixa S0 1 rfl h2 fun u3 S4 => ?_
  refine g_c ?_
  obtain ⟨x6, h7, hf⟩ := hf
  have S8 := M.cstA S4 0 rfl h7
  obtain rfl := (S8.gotA 0 rfl).strV
  have S9 := S8.tl
  refine v_eqS (g_bl (v_iff hf (fun _ hf => ?_) (fun _ hf => ?_)))
  ·
    refine g_ret (g_meth (g_var rfl (v_R_House S9 1 rfl (fun _ _ => rfl) (g_cons (g_op (g_var rfl (g_c ?_)))))))
    obtain ⟨x10, h11, hf⟩ := hf
    refine v_ixa S9 2 rfl h11 fun u12 S13 => ?_
    refine g_cons (g_op (g_var rfl (g_c ?_)))
    obtain ⟨x15, h16, hf⟩ := hf
    refine v_ixa S13 3 rfl h16 fun u17 S18 => ?_
    refine g_nil ?_
    obtain ⟨x20, h21, hf⟩ := hf
    have S22 := M.cstA S18 1 rfl h21
    obtain rfl := (S22.gotA 0 rfl).strV
    have S23 := S22.tl
    obtain ⟨x24, h25, hf⟩ := hf
    have S26 := M.cstA S23 0 rfl h25
    refine ⟨_, _, _, _, _, _, _, _, _, rfl, Brw.da, (M.at (M.addA S26 (EnF.at 0 rfl)) 5 rfl), hf, fun x34 m33 d35 v36 H38 hf (S37 : M (pt d35 (.xd [(x34.fld, v36)]) :: da K v36 x34.val :: R_House K p_a_house m33 :: da K u17 ((eL eI) x24) :: da K u17 ((eL eI) x24) :: da K u17 (eA x15) :: da K (V.str x20) (eA x10) :: da K (V.str x6) (eA x1) :: da K v_a_deed (eA a_deed) :: Rs) H38) => ?_, fun m29 H31 hf (S30 : M (R_House K p_a_house m29 :: da K u17 ((eL eI) x24) :: da K u17 ((eL eI) x24) :: da K u17 (eA x15) :: da K (V.str x20) (eA x10) :: da K (V.str x6) (eA x1) :: da K v_a_deed (eA a_deed) :: Rs) H31) => ?_⟩
    ·
      exact hX x34 _ d35 v36 _ hf (M.sub (.cons 0 rfl (.cons 0 rfl (.cons 0 rfl (.tl (.tl (.tl (.tl (.tl (.tl (.refl _)))))))))) S37)
    have S41 : M (da K V.non (eN ()) :: R_House K p_a_house m29 :: da K u17 ((eL eI) x24) :: da K u17 ((eL eI) x24) :: da K u17 (eA x15) :: da K (V.str x20) (eA x10) :: da K (V.str x6) (eA x1) :: da K v_a_deed (eA a_deed) :: Rs) H31 := M.addA S30 (EnF.all fun _ => .non)
    exact hk _ _ _ _ hf (M.sub (.cons 0 rfl (.cons 0 rfl (.tl (.tl (.tl (.tl (.tl (.tl (.refl _))))))))) S41)
  ·
    refine g_next (g_nx (g_seq (g_if (g_test (g_op (g_op (g_var rfl (g_c ?_))))))))
    obtain ⟨x43, h44, hf⟩ := hf
    refine v_ixa S9 2 rfl h44 fun u45 S46 => ?_
    refine g_c ?_
    obtain ⟨x48, h49, hf⟩ := hf
    have S50 := M.cstA S46 0 rfl h49
    obtain rfl := (S50.gotA 0 rfl).strV
    have S51 := S50.tl
    refine v_eqS (g_bl (v_iff hf (fun _ hf => ?_) (fun _ hf => ?_)))
    ·
      refine g_ret (g_meth (g_var rfl (v_R_House S51 2 rfl (fun _ _ => rfl) (g_cons (g_op (g_var rfl (g_c ?_)))))))
      obtain ⟨x52, h53, hf⟩ := hf
      refine v_ixa S51 3 rfl h53 fun u54 S55 => ?_
      refine g_nil ?_
      obtain ⟨x57, h58, hf⟩ := hf
      have S59 := M.cstA S55 0 rfl h58
      obtain rfl := (S59.gotA 0 rfl).strV
      have S60 := S59.tl
      refine ⟨_, _, _, _, _, _, rfl, (M.at S60 3 rfl), hf, fun x66 m65 d67 v68 H70 hf (S69 : M (pt d67 (.xd [(x66.fld, v68)]) :: da K v68 x66.val :: R_House K p_a_house m65 :: da K (V.str x57) (eA x52) :: da K (V.str x48) (eA x43) :: da K (V.str x6) (eA x1) :: da K v_a_deed (eA a_deed) :: Rs) H70) => ?_, fun m61 H63 hf (S62 : M (R_House K p_a_house m61 :: da K (V.str x57) (eA x52) :: da K (V.str x48) (eA x43) :: da K (V.str x6) (eA x1) :: da K v_a_deed (eA a_deed) :: Rs) H63) => ?_⟩
      ·
        exact hX x66 _ d67 v68 _ hf (M.sub (.cons 0 rfl (.cons 0 rfl (.cons 0 rfl (.tl (.tl (.tl (.tl (.refl _)))))))) S69)
      have S73 : M (da K V.non (eN ()) :: R_House K p_a_house m61 :: da K (V.str x57) (eA x52) :: da K (V.str x48) (eA x43) :: da K (V.str x6) (eA x1) :: da K v_a_deed (eA a_deed) :: Rs) H63 := M.addA S62 (EnF.all fun _ => .non)
      exact hk _ _ _ _ hf (M.sub (.cons 0 rfl (.cons 0 rfl (.tl (.tl (.tl (.tl (.refl _))))))) S73)
    ·
      refine g_next (g_nx (g_seq (g_if (g_test (g_op (g_op (g_var rfl (g_c ?_))))))))
      obtain ⟨x75, h76, hf⟩ := hf
      refine v_ixa S51 3 rfl h76 fun u77 S78 => ?_
      refine g_c ?_
      obtain ⟨x80, h81, hf⟩ := hf
      have S82 := M.cstA S78 0 rfl h81
      obtain rfl := (S82.gotA 0 rfl).strV
      have S83 := S82.tl
      refine v_eqS (g_bl (v_iff hf (fun _ hf => ?_) (fun _ hf => ?_)))
      ·
        refine g_ret (g_meth (g_var rfl (v_R_House S83 3 rfl (fun _ _ => rfl) (g_cons (g_op (g_var rfl (g_c ?_)))))))
        obtain ⟨x84, h85, hf⟩ := hf
        refine v_ixa S83 4 rfl h85 fun u86 S87 => ?_
        refine g_cons (g_op (g_var rfl (g_c ?_)))
        obtain ⟨x89, h90, hf⟩ := hf
        refine v_ixa S87 5 rfl h90 fun u91 S92 => ?_
        refine g_nil ?_
        obtain ⟨x94, h95, hf⟩ := hf
        have S96 := M.cstA S92 1 rfl h95
        obtain rfl := (S96.gotA 0 rfl).strV
        have S97 := S96.tl
        obtain ⟨x98, h99, hf⟩ := hf
        have S100 := M.cstA S97 0 rfl h99
        obtain rfl := (S100.gotA 0 rfl).strV
        have S101 := S100.tl
        refine ⟨_, _, _, _, _, _, _, rfl, (M.at S101 5 rfl), hf, fun x107 m106 d108 v109 H111 hf (S110 : M (pt d108 (.xd [(x107.fld, v109)]) :: da K v109 x107.val :: R_House K p_a_house m106 :: da K (V.str x98) (eA x89) :: da K (V.str x94) (eA x84) :: da K (V.str x80) (eA x75) :: da K (V.str x48) (eA x43) :: da K (V.str x6) (eA x1) :: da K v_a_deed (eA a_deed) :: Rs) H111) => ?_, fun m102 H104 hf (S103 : M (R_House K p_a_house m102 :: da K (V.str x98) (eA x89) :: da K (V.str x94) (eA x84) :: da K (V.str x80) (eA x75) :: da K (V.str x48) (eA x43) :: da K (V.str x6) (eA x1) :: da K v_a_deed (eA a_deed) :: Rs) H104) => ?_⟩
        ·
          exact hX x107 _ d108 v109 _ hf (M.sub (.cons 0 rfl (.cons 0 rfl (.cons 0 rfl (.tl (.tl (.tl (.tl (.tl (.tl (.refl _)))))))))) S110)
        have S114 : M (da K V.non (eN ()) :: R_House K p_a_house m102 :: da K (V.str x98) (eA x89) :: da K (V.str x94) (eA x84) :: da K (V.str x80) (eA x75) :: da K (V.str x48) (eA x43) :: da K (V.str x6) (eA x1) :: da K v_a_deed (eA a_deed) :: Rs) H104 := M.addA S103 (EnF.all fun _ => .non)
        exact hk _ _ _ _ hf (M.sub (.cons 0 rfl (.cons 0 rfl (.tl (.tl (.tl (.tl (.tl (.tl (.refl _))))))))) S114)
      ·
        refine g_next (g_nx (g_seq (g_if (g_test (g_op (g_op (g_var rfl (g_c ?_))))))))
        obtain ⟨x116, h117, hf⟩ := hf
        refine v_ixa S83 4 rfl h117 fun u118 S119 => ?_
        refine g_c ?_
        obtain ⟨x121, h122, hf⟩ := hf
        have S123 := M.cstA S119 0 rfl h122
        obtain rfl := (S123.gotA 0 rfl).strV
        have S124 := S123.tl
        refine v_eqS (g_bl (v_iff hf (fun _ hf => ?_) (fun _ hf => ?_)))
        ·
          exact hf.elim
        ·
          refine g_next (g_nx (g_ret (g_meth (g_var rfl (v_R_House S124 4 rfl (fun _ _ => rfl) (g_cons (g_op (g_var rfl (g_c ?_)))))))))
          obtain ⟨x125, h126, hf⟩ := hf
          refine v_ixa S124 5 rfl h126 fun u127 S128 => ?_
          refine g_nil ?_
          obtain ⟨x130, h131, hf⟩ := hf
          have S132 := M.cstA S128 0 rfl h131
          obtain rfl := (S132.gotA 0 rfl).strV
          have S133 := S132.tl
          refine ⟨_, _, _, _, _, _, rfl, (M.at S133 5 rfl), hf, fun x139 d140 v141 H143 hf (S142 : M (pt d140 (.xd [(x139.fld, v141)]) :: da K v141 x139.val :: R_House K p_a_house a_house :: da K (V.str x130) (eA x125) :: da K (V.str x121) (eA x116) :: da K (V.str x80) (eA x75) :: da K (V.str x48) (eA x43) :: da K (V.str x6) (eA x1) :: da K v_a_deed (eA a_deed) :: Rs) H143) => ?_, fun x134 u137 H136 hf (S135 : M (acR K u137 (x134.map eI) :: R_House K p_a_house a_house :: da K (V.str x130) (eA x125) :: da K (V.str x121) (eA x116) :: da K (V.str x80) (eA x75) :: da K (V.str x48) (eA x43) :: da K (V.str x6) (eA x1) :: da K v_a_deed (eA a_deed) :: Rs) H136) => ?_⟩
          ·
            exact hX x139 _ d140 v141 _ hf (M.sub (.cons 0 rfl (.cons 0 rfl (.cons 0 rfl (.tl (.tl (.tl (.tl (.tl (.tl (.refl _)))))))))) S142)
          have S146 : M (da K (V.ref u137) ((eL eI) x134) :: R_House K p_a_house a_house :: da K (V.str x130) (eA x125) :: da K (V.str x121) (eA x116) :: da K (V.str x80) (eA x75) :: da K (V.str x48) (eA x43) :: da K (V.str x6) (eA x1) :: da K v_a_deed (eA a_deed) :: Rs) H136 := acR_fixL S135
          exact hk _ _ _ _ hf (M.sub (.cons 0 rfl (.cons 0 rfl (.tl (.tl (.tl (.tl (.tl (.tl (.refl _))))))))) S146)
def p_l_said (a_house : ((List (Str × (List Int))))) (a_deed : PyData) (P : PyData → ((List (Str × (List Int)))) → Prop) : Prop := jn (β := PyData × ((List (Str × (List Int))))) (fun k4 => p_l_call a_house a_deed (fun x20 m18 => p_l_refused x20 fun x28 => k4 (((eP eS eA) x28), m18)) fun x13 m14 => k4 (((eP eS eA) (("told" : Str), x13)), m14)) fun s3 => P s3.1 s3.2
def sp_l_said (K : PySem.W.Frag) : Sp := fun vs H Q _ => ∃ (Rs : List Res) (p_a_house : Addr) (a_house : ((List (Str × (List Int))))) (v_a_deed : V) (a_deed : PyData) (P : PyData → ((List (Str × (List Int)))) → Prop), vs = [(V.ref p_a_house), v_a_deed] ∧ M (R_House K p_a_house a_house :: da K v_a_deed (eA a_deed) :: Rs) H ∧ p_l_said a_house a_deed P ∧ ∀ (r : PyData) (m1 : ((List (Str × (List Int))))) (v : V) H', P r m1 → M (da K v (eA r) :: R_House K p_a_house m1 :: Rs) H' → Q v H'
theorem len_l_said {K : PySem.W.Frag} (vs : List V) (H : Hp) (Q : VK) (E : XK) (h : sp_l_said K vs H Q E) : vs.length = 2 := by
  obtain ⟨Rs, p_a_house, a_house, v_a_deed, a_deed, P, rfl, _⟩ := h
  rfl
abbrev t_l_said_2 (K : PySem.W.Frag) : TS := (tSeq (tTry K W0 (fun W => (tAsg (tTup (tCons (tC (.str "told")) (tCons (tCallW W (sp_l_call K) [] (tCons (tVar 0) (tCons (tVar 1) tNil))) tNil))) (gName 2))) [⟨[.ref (He.ga K "StoreError"), .ref (He.ga K "Missing")], some 3, fun a cls d => (tAsg (tCallE a cls d (sp_l_refused K) (tVar 3)) (gName 2))⟩])
  (tRet (tVar 2)))
abbrev t_l_said_1 (K : PySem.W.Frag) : TS := (tSeq (tAsg (tC .non) (gName 2))
  (t_l_said_2 K))
abbrev t_l_said (K : PySem.W.Frag) : TS := (t_l_said_1 K)
theorem pure_l_said {K : PySem.W.Frag} (T : TxC K) (vs : List V) (H : Hp) (Q : VK) (E : XK) (h : sp_l_said K vs H Q E) : t_l_said K { nx := fun _ H' => Q .non H', rt := Q } (L2.start ["_law_house", "_law_deed", "_law_found", "_law_e"] vs) H := by
  obtain ⟨Rs, p_a_house, a_house, v_a_deed, a_deed, P, rfl, S0, hf, hk⟩ := h
  show t_l_said K _ [some (V.ref p_a_house), some v_a_deed, none, none] H
  refine g_seq (g_asg (g_c ?_))
  have S1 : M (da K V.non (eN ()) :: R_House K p_a_house a_house :: da K v_a_deed (eA a_deed) :: Rs) H := M.addA S0 (EnF.all fun _ => .non)
  refine g_nx ?_
  refine jn_cut (β := PyData × ((List (Str × (List Int))))) hf (fun (s3 : PyData × ((List (Str × (List Int))))) σ H' => ∃ (u8 : V) (o11 : Option V), σ = [some (V.ref p_a_house), some v_a_deed, some u8, o11] ∧ M (da K u8 (eA s3.1) :: R_House K p_a_house s3.2 :: da K v_a_deed (eA a_deed) :: Rs) H') (fun kk5 N6 hN7 hf => ?_) ?_
  ·
    refine g_try (g_asg (g_tup (g_cons (g_c (g_cons (g_callW (g_cons (g_var rfl (g_cons (g_var rfl (g_nil (⟨_, _, _, _, _, _, _, rfl, (M.at (M.addA S1 (EnF.at 2 rfl)) 2 rfl), hf, fun x20 m18 d21 v22 H24 hf (S23 : M (pt d21 (.xd [(x20.fld, v22)]) :: da K v22 x20.val :: R_House K p_a_house m18 :: da K V.non (eN ()) :: da K v_a_deed (eA a_deed) :: Rs) H24) => ?_, fun x13 m14 u17 H16 hf (S15 : M (da K u17 (eA x13) :: R_House K p_a_house m14 :: da K V.non (eN ()) :: da K v_a_deed (eA a_deed) :: Rs) H16) => ?_⟩))))))))))))
    ·
      refine v_hdY ?_ fun a27 => ?_
      ·
        cases x20 with
        | Wrong w => exact (exm_cons T.xm_Wrong_StoreError (exm_cons T.xm_Wrong_Missing rfl))
        | TooMany w => exact (exm_cons T.xm_TooMany_StoreError (exm_cons T.xm_TooMany_Missing rfl))
        | NoFile w => exact (exm_cons T.xm_NoFile_StoreError (exm_cons T.xm_NoFile_Missing rfl))
        | There w => exact (exm_cons T.xm_There_StoreError (exm_cons T.xm_There_Missing rfl))
      refine g_asg (g_callE (g_var rfl (⟨rfl, _, _, _, x20, _, rfl, rfl, (M.sub (.cons 0 rfl (.cons 0 rfl (.refl _))) S23), hf, fun x28 u29 H31 hf (S30 : M (da K u29 ((eP eS eA) x28) :: pt d21 (.xd [(x20.fld, v22)]) :: da K v22 x20.val :: R_House K p_a_house m18 :: da K V.non (eN ()) :: da K v_a_deed (eA a_deed) :: Rs) H31) => ?_⟩)))
      exact hN7 _ _ _ hf ⟨_, _, rfl, (M.sub (.cons 0 rfl (.cons 2 rfl (.cons 3 rfl (.tl (.tl (.tl (.refl _))))))) S30)⟩
    refine g_nil (v_tupq S15 (EnF.consA (EnF.all fun _ => .str _) (EnF.consA (EnF.at 0 rfl) EnF.nilA)) (len_ok rfl) fun p33 H35 (S34 : M (da K (V.ref p33) ((eP eS eA) (("told" : Str), x13)) :: da K u17 (eA x13) :: R_House K p_a_house m14 :: da K V.non (eN ()) :: da K v_a_deed (eA a_deed) :: Rs) H35) => ?_)
    exact hN7 _ _ _ hf ⟨_, _, rfl, (M.sub (.cons 0 rfl (.cons 1 rfl (.cons 2 rfl (.tl (.tl (.refl _)))))) S34)⟩
  rintro s3 _ H38 hf ⟨u8, o11, rfl, S37⟩
  refine g_ret (g_var rfl ?_)
  exact hk _ _ _ _ hf (M.sub (.cons 0 rfl (.cons 0 rfl (.tl (.refl _)))) S37)
def p_l_same (a_house : ((List (Str × (List Int))))) (a_files : (List (Str × (List Int)))) (P : Bool → Prop) : Prop := p_House_names_of a_house fun x1 => p_House_contents a_house fun x8 => p_House___len__ a_house fun x15 => ((0 : Int) ≤ x15 ∧ x15 < (2 ^ 63 : Int)) ∧ (ks a_files).length < 64 ∧ (ks a_files).length < 64 ∧ ((srtS' (ks a_files))).length ≤ 100000 ∧ lcD (fun (x40 : Str) (k47 : Option (Str × (List Int)) → Prop) => ∃ x48, lk a_files x40 = some x48 ∧ k47 (some (x40, x48))) (srtS' (ks a_files)) [] fun acc37 => (((eL eA) ([(eL eS) x1, (eD iS (eL eI)) x8, eI x15] : List PyData)) = ((eL eA) ([(eL eS) (srtS' (ks a_files)), (eD iS (eL eI)) (dOf acc37), eI ((a_files).length : Int)] : List PyData)) ∧ AlkOk ((eL eA) ([(eL eS) x1, (eD iS (eL eI)) x8, eI x15] : List PyData))) ∧ P true
def sp_l_same (K : PySem.W.Frag) : Sp := fun vs H Q _ => ∃ (Rs : List Res) (p_a_house : Addr) (a_house : ((List (Str × (List Int))))) (p_a_files : Addr) (a_files : (List (Str × (List Int)))) (P : Bool → Prop), vs = [(V.ref p_a_house), (V.ref p_a_files)] ∧ M (R_House K p_a_house a_house :: adR K iS (eL eI) p_a_files a_files :: Rs) H ∧ p_l_same a_house a_files P ∧ ∀ (r : Bool) H', P r → M (R_House K p_a_house a_house :: adR K iS (eL eI) p_a_files a_files :: Rs) H' → Q (V.bl r) H'
theorem len_l_same {K : PySem.W.Frag} (vs : List V) (H : Hp) (Q : VK) (E : XK) (h : sp_l_same K vs H Q E) : vs.length = 2 := by
  obtain ⟨Rs, p_a_house, a_house, p_a_files, a_files, P, rfl, _⟩ := h
  rfl
abbrev t_l_same_2 (K : PySem.W.Frag) : TS := (tSeq (tAsg (tLst (tCons (tCB rSortDS (tCons (tVar 1) tNil)) (tCons (tCB (rDictP K) (tCons (tLc (iList K (tCB rSortDS (tCons (tVar 1) tNil))) (gName 4) tYes (tTup (tCons (tVar 4) (tCons (tOp rIxK (tVar 1) (tVar 4)) tNil))) [4]) tNil)) (tCons (tCB (uLen K) (tCons (tVar 1) tNil)) tNil)))) (gName 3))
  (tRet (tCall (sp_l_alike K) [] E0 (tCons (tVar 2) (tCons (tVar 3) tNil)))))
abbrev t_l_same_1 (K : PySem.W.Frag) : TS := (tSeq (tAsg (tLst (tCons (tMethW W0 (He.ga K "House") "names_of" (sp_House_names_of K) [] (tVar 0) tNil) (tCons (tMethW W0 (He.ga K "House") "contents" (sp_House_contents K) [] (tVar 0) tNil) (tCons (tCB (rLenI (He.ga K "House") (sp_House___len__ K)) (tCons (tVar 0) tNil)) tNil)))) (gName 2))
  (t_l_same_2 K))
abbrev t_l_same (K : PySem.W.Frag) : TS := (t_l_same_1 K)
theorem pure_l_same {K : PySem.W.Frag} (T : TxC K) (vs : List V) (H : Hp) (Q : VK) (E : XK) (h : sp_l_same K vs H Q E) : t_l_same K { nx := fun _ H' => Q .non H', rt := Q } (L2.start ["_law_house", "_law_files", "_law_told", "_law_due_here", "_law_name"] vs) H := by
  obtain ⟨Rs, p_a_house, a_house, p_a_files, a_files, P, rfl, S0, hf, hk⟩ := h
  show t_l_same K _ [some (V.ref p_a_house), some (V.ref p_a_files), none, none, none] H
  refine g_seq (g_asg (g_lst (g_cons (g_meth (g_var rfl (v_R_House S0 0 rfl (fun _ _ => rfl) (g_nil (⟨_, _, _, _, rfl, (M.at S0 0 rfl), hf, fun x1 u4 H3 hf (S2 : M (acR K u4 (x1.map eS) :: R_House K p_a_house a_house :: adR K iS (eL eI) p_a_files a_files :: Rs) H3) => ?_⟩))))))))
  have S6 : M (da K (V.ref u4) ((eL eS) x1) :: R_House K p_a_house a_house :: adR K iS (eL eI) p_a_files a_files :: Rs) H3 := acR_fixL S2
  refine g_cons (g_meth (g_var rfl (v_R_House S6 1 rfl (fun _ _ => rfl) (g_nil (⟨_, _, _, _, rfl, (M.at S6 1 rfl), hf, fun x8 u11 H10 hf (S9 : M (adoR u11 x8 :: R_House K p_a_house a_house :: da K (V.ref u4) ((eL eS) x1) :: adR K iS (eL eI) p_a_files a_files :: Rs) H10) => ?_⟩)))))
  have S13 : M (da K (V.ref u11) ((eD iS (eL eI)) x8) :: R_House K p_a_house a_house :: da K (V.ref u4) ((eL eS) x1) :: adR K iS (eL eI) p_a_files a_files :: Rs) H10 := ado_fix S9
  refine g_cons (g_cb (g_cons (g_var rfl (g_nil (v_len_House S13 1 rfl (⟨_, _, _, _, rfl, (S13.at 1 rfl), hf, fun x15 H17 hf (S16 : M (R_House K p_a_house a_house :: da K (V.ref u11) ((eD iS (eL eI)) x8) :: da K (V.ref u4) ((eL eS) x1) :: adR K iS (eL eI) p_a_files a_files :: Rs) H17) => ?_⟩))))))
  obtain ⟨h18, hf⟩ := hf
  refine ⟨_, rfl, h18.1, h18.2, ?_⟩
  refine g_nil (v_lsto (ds := ([(eL eS) x1, (eD iS (eL eI)) x8, eI x15] : List PyData).map eA) S16 (EnF.consA (EnF.at 2 rfl) (EnF.consA (EnF.at 1 rfl) (EnF.consA (EnF.all fun _ => .int _) EnF.nilA))) (len_ok rfl) fun p19 H21 (S20 : M (acR K p19 (([(eL eS) x1, (eD iS (eL eI)) x8, eI x15] : List PyData).map eA) :: R_House K p_a_house a_house :: da K (V.ref u11) ((eD iS (eL eI)) x8) :: da K (V.ref u4) ((eL eS) x1) :: adR K iS (eL eI) p_a_files a_files :: Rs) H21) => ?_)
  have S23 : M (da K (V.ref p19) ((eL eA) ([(eL eS) x1, (eD iS (eL eI)) x8, eI x15] : List PyData)) :: R_House K p_a_house a_house :: da K (V.ref u11) ((eD iS (eL eI)) x8) :: da K (V.ref u4) ((eL eS) x1) :: adR K iS (eL eI) p_a_files a_files :: Rs) H21 := acR_fixL S20
  refine g_nx (g_seq (g_asg (g_lst (g_cons (g_cb (g_cons (g_var rfl (g_nil ?_))))))))
  obtain ⟨h25, hf⟩ := hf
  refine v_sortdS S23 4 rfl h25 fun p26 H28 (S27 : M (acR K p26 ((srtS' (ks a_files)).map eS) :: da K (V.ref p19) ((eL eA) ([(eL eS) x1, (eD iS (eL eI)) x8, eI x15] : List PyData)) :: R_House K p_a_house a_house :: da K (V.ref u11) ((eD iS (eL eI)) x8) :: da K (V.ref u4) ((eL eS) x1) :: adR K iS (eL eI) p_a_files a_files :: Rs) H28) => ?_
  have S30 : M (da K (V.ref p26) ((eL eS) (srtS' (ks a_files))) :: da K (V.ref p19) ((eL eA) ([(eL eS) x1, (eD iS (eL eI)) x8, eI x15] : List PyData)) :: R_House K p_a_house a_house :: da K (V.ref u11) ((eD iS (eL eI)) x8) :: da K (V.ref u4) ((eL eS) x1) :: adR K iS (eL eI) p_a_files a_files :: Rs) H28 := acR_fixL S27
  refine g_cons (g_cb (g_cons (g_lc (g_iList (g_cb (g_cons (g_var rfl (g_nil ?_))))))))
  obtain ⟨h32, hf⟩ := hf
  refine v_sortdS S30 5 rfl h32 fun p33 H35 (S34 : M (acR K p33 ((srtS' (ks a_files)).map eS) :: da K (V.ref p26) ((eL eS) (srtS' (ks a_files))) :: da K (V.ref p19) ((eL eA) ([(eL eS) x1, (eD iS (eL eI)) x8, eI x15] : List PyData)) :: R_House K p_a_house a_house :: da K (V.ref u11) ((eD iS (eL eI)) x8) :: da K (V.ref u4) ((eL eS) x1) :: adR K iS (eL eI) p_a_files a_files :: Rs) H35) => ?_
  refine lc_N flS (K := K) (e' := (eP eS (eL eI))) hf S34 (fun _ S => S.gotO 0 rfl) (fun x40 acc37 E38 H46 kk39 N41 hl42 S45 hf hp43 hn44 => ?_) (fun E38 acc37 H60 hf S59 => ?_)
  ·
    refine g_name (g_wipe rfl (g_yes (v_ifT (g_tup (g_cons (g_var rfl (g_cons (g_op (g_var rfl (g_var rfl ?_))))))))))
    obtain ⟨x48, h49, hf⟩ := hf
    refine v_ixdS S45 7 rfl h49 fun u50 S51 => ?_
    refine g_nil (v_tupq S51 (EnF.consA (EnF.all fun _ => .str _) (EnF.consA (EnF.at 0 rfl) EnF.nilA)) (len_ok rfl) fun p53 H55 (S54 : M (da K (V.ref p53) ((eP eS (eL eI)) (x40, x48)) :: da K u50 ((eL eI) x48) :: acR K E38 (acc37.map (eP eS (eL eI))) :: acR K p33 ((srtS' (ks a_files)).map eS) :: da K (V.ref p26) ((eL eS) (srtS' (ks a_files))) :: da K (V.ref p19) ((eL eA) ([(eL eS) x1, (eD iS (eL eI)) x8, eI x15] : List PyData)) :: R_House K p_a_house a_house :: da K (V.ref u11) ((eD iS (eL eI)) x8) :: da K (V.ref u4) ((eL eS) x1) :: adR K iS (eL eI) p_a_files a_files :: Rs) H55) => ?_)
    refine acR_put S54 2 rfl (EnF.at 0 rfl) hl42 fun H58 (S57 : M (acR K E38 (acc37.map (eP eS (eL eI)) ++ [(eP eS (eL eI)) (x40, x48)]) :: da K (V.ref p53) ((eP eS (eL eI)) (x40, x48)) :: da K u50 ((eL eI) x48) :: acR K p33 ((srtS' (ks a_files)).map eS) :: da K (V.ref p26) ((eL eS) (srtS' (ks a_files))) :: da K (V.ref p19) ((eL eA) ([(eL eS) x1, (eD iS (eL eI)) x8, eI x15] : List PyData)) :: R_House K p_a_house a_house :: da K (V.ref u11) ((eD iS (eL eI)) x8) :: da K (V.ref u4) ((eL eS) x1) :: adR K iS (eL eI) p_a_files a_files :: Rs) H58) => ?_
    exact hp43 _ _ hf (M.sub (.cons 0 rfl (.cons 2 rfl (.cons 2 rfl (.cons 2 rfl (.cons 2 rfl (.cons 2 rfl (.cons 2 rfl (.cons 2 rfl (.tl (.tl (.refl _))))))))))) S57)
  have S62 : M (da K (V.ref E38) ((eL (eP eS (eL eI))) acc37) :: acR K p33 ((srtS' (ks a_files)).map eS) :: da K (V.ref p26) ((eL eS) (srtS' (ks a_files))) :: da K (V.ref p19) ((eL eA) ([(eL eS) x1, (eD iS (eL eI)) x8, eI x15] : List PyData)) :: R_House K p_a_house a_house :: da K (V.ref u11) ((eD iS (eL eI)) x8) :: da K (V.ref u4) ((eL eS) x1) :: adR K iS (eL eI) p_a_files a_files :: Rs) H60 := acR_fixL S59
  refine g_nil (v_dictp S62 0 rfl fun p64 H66 (S65 : M (adR K iS (eL eI) p64 (dOf acc37) :: da K (V.ref E38) ((eL (eP eS (eL eI))) acc37) :: acR K p33 ((srtS' (ks a_files)).map eS) :: da K (V.ref p26) ((eL eS) (srtS' (ks a_files))) :: da K (V.ref p19) ((eL eA) ([(eL eS) x1, (eD iS (eL eI)) x8, eI x15] : List PyData)) :: R_House K p_a_house a_house :: da K (V.ref u11) ((eD iS (eL eI)) x8) :: da K (V.ref u4) ((eL eS) x1) :: adR K iS (eL eI) p_a_files a_files :: Rs) H66) => ?_)
  have S68 : M (da K (V.ref p64) ((eD iS (eL eI)) (dOf acc37)) :: da K (V.ref E38) ((eL (eP eS (eL eI))) acc37) :: acR K p33 ((srtS' (ks a_files)).map eS) :: da K (V.ref p26) ((eL eS) (srtS' (ks a_files))) :: da K (V.ref p19) ((eL eA) ([(eL eS) x1, (eD iS (eL eI)) x8, eI x15] : List PyData)) :: R_House K p_a_house a_house :: da K (V.ref u11) ((eD iS (eL eI)) x8) :: da K (V.ref u4) ((eL eS) x1) :: adR K iS (eL eI) p_a_files a_files :: Rs) H66 := adR_fix S65
  refine g_cons (g_cb (g_cons (g_var rfl (g_nil (v_lend S68 8 rfl (g_nil (v_lsto (ds := ([(eL eS) (srtS' (ks a_files)), (eD iS (eL eI)) (dOf acc37), eI ((a_files).length : Int)] : List PyData).map eA) S68 (EnF.consA (EnF.at 3 rfl) (EnF.consA (EnF.at 0 rfl) (EnF.consA (EnF.all fun _ => .int _) EnF.nilA))) (len_ok rfl) fun p70 H72 (S71 : M (acR K p70 (([(eL eS) (srtS' (ks a_files)), (eD iS (eL eI)) (dOf acc37), eI ((a_files).length : Int)] : List PyData).map eA) :: da K (V.ref p64) ((eD iS (eL eI)) (dOf acc37)) :: da K (V.ref E38) ((eL (eP eS (eL eI))) acc37) :: acR K p33 ((srtS' (ks a_files)).map eS) :: da K (V.ref p26) ((eL eS) (srtS' (ks a_files))) :: da K (V.ref p19) ((eL eA) ([(eL eS) x1, (eD iS (eL eI)) x8, eI x15] : List PyData)) :: R_House K p_a_house a_house :: da K (V.ref u11) ((eD iS (eL eI)) x8) :: da K (V.ref u4) ((eL eS) x1) :: adR K iS (eL eI) p_a_files a_files :: Rs) H72) => ?_)))))))
  have S74 : M (da K (V.ref p70) ((eL eA) ([(eL eS) (srtS' (ks a_files)), (eD iS (eL eI)) (dOf acc37), eI ((a_files).length : Int)] : List PyData)) :: da K (V.ref p64) ((eD iS (eL eI)) (dOf acc37)) :: da K (V.ref E38) ((eL (eP eS (eL eI))) acc37) :: acR K p33 ((srtS' (ks a_files)).map eS) :: da K (V.ref p26) ((eL eS) (srtS' (ks a_files))) :: da K (V.ref p19) ((eL eA) ([(eL eS) x1, (eD iS (eL eI)) x8, eI x15] : List PyData)) :: R_House K p_a_house a_house :: da K (V.ref u11) ((eD iS (eL eI)) x8) :: da K (V.ref u4) ((eL eS) x1) :: adR K iS (eL eI) p_a_files a_files :: Rs) H72 := acR_fixL S71
  refine g_nx (g_ret (g_call (g_cons (g_var rfl (g_cons (g_var rfl (g_nil ?_)))))))
  obtain ⟨h76, hf⟩ := hf
  refine ⟨_, _, _, rfl, (M.gotA S74 5 rfl), (Dq.by_ h76.1 (M.gotA S74 0 rfl)), h76.2, ?_⟩
  exact hk _ _ hf (M.sub (.cons 6 rfl (.cons 8 rfl (.tl (.tl (.tl (.tl (.tl (.tl (.tl (.tl (.refl _))))))))))) S74)
def p_l_step (a_house : ((List (Str × (List Int))))) (a_files : (List (Str × (List Int)))) (a_deed : PyData) (P : Bool → ((List (Str × (List Int)))) → (List (Str × (List Int))) → Prop) : Prop := p_l_due a_files a_deed fun x2 => jn (fun k11 => if (!isNo x2) = true then (∃ x13, anyAt a_deed 1 = some x13 ∧ ∃ x18 : Str, x13 = eS x18 ∧ ((x18).length ≤ 100000) ∧ ((0 : Int) < 2) ∧ k11 (decide ((((x18).length : Int) % 2) = 0))) else (k11 false)) fun c7 => jn (β := PyData × (List (Str × (List Int)))) (fun k27 => if (isNo x2) = true then (p_l_do a_files a_deed fun x35 m36 => k27 (((eP eS eA) (("told" : Str), x35)), m36)) else (k27 (x2, a_files))) fun s26 => ((-(2 ^ 62) : Int) ≤ (1 + (if c7 = true then (1 : Int) else 0)) ∧ (1 + (if c7 = true then (1 : Int) else 0)) < (2 ^ 62 : Int)) ∧ (rng (1 + (if c7 = true then (1 : Int) else 0))).length ≤ 100000 ∧ lcS (fun (x51 : Int) (s59 : ((List (Str × (List Int))))) (k58 : Option Bool → ((List (Str × (List Int)))) → Prop) => p_l_said s59 a_deed fun x62 m63 => ((eA x62) = (eA s26.1) ∧ AlkOk (eA x62)) ∧ k58 (some true) m63) (rng (1 + (if c7 = true then (1 : Int) else 0))) a_house [] fun acc48 s59 => P ((acc48).all id) s59 s26.2
def sp_l_step (K : PySem.W.Frag) : Sp := fun vs H Q _ => ∃ (Rs : List Res) (p_a_house : Addr) (a_house : ((List (Str × (List Int))))) (p_a_files : Addr) (a_files : (List (Str × (List Int)))) (v_a_deed : V) (a_deed : PyData) (P : Bool → ((List (Str × (List Int)))) → (List (Str × (List Int))) → Prop), vs = [(V.ref p_a_house), (V.ref p_a_files), v_a_deed] ∧ M (R_House K p_a_house a_house :: adR K iS (eL eI) p_a_files a_files :: da K v_a_deed (eA a_deed) :: Rs) H ∧ p_l_step a_house a_files a_deed P ∧ ∀ (r : Bool) (m1 : ((List (Str × (List Int))))) (m2 : (List (Str × (List Int)))) H', P r m1 m2 → M (R_House K p_a_house m1 :: adR K iS (eL eI) p_a_files m2 :: Rs) H' → Q (V.bl r) H'
theorem len_l_step {K : PySem.W.Frag} (vs : List V) (H : Hp) (Q : VK) (E : XK) (h : sp_l_step K vs H Q E) : vs.length = 3 := by
  obtain ⟨Rs, p_a_house, a_house, p_a_files, a_files, v_a_deed, a_deed, P, rfl, _⟩ := h
  rfl
abbrev t_l_step_3 (K : PySem.W.Frag) : TS := (tSeq (tIfS (tTest (tOp rIsN (tVar 3) (tC .non))) (tAsg (tTup (tCons (tC (.str "told")) (tCons (tCall (sp_l_do K) [] E0 (tCons (tVar 1) (tCons (tVar 2) tNil))) tNil))) (gName 3)) tNext)
  (tRet (tCB (rAll K) (tCons (tLc (iRng1 (tCons (tVar 4) tNil)) (gName 5) tYes (tCall (sp_l_alike K) [] E0 (tCons (tCall (sp_l_said K) [] E0 (tCons (tVar 0) (tCons (tVar 2) tNil))) (tCons (tVar 3) tNil))) [5]) tNil))))
abbrev t_l_step_2 (K : PySem.W.Frag) : TS := (tSeq (tAsg (tOp (uAdd K) (tC (.int 1)) (tCB rIntB (tCons (tAndV (tOp rNotN (tVar 3) (tC .non)) (tOp (uEq K) (tOp uMod (tCB (uLen K) (tCons (tOp (uIx K) (tVar 2) (tC (.int 1))) tNil)) (tC (.int 2))) (tC (.int 0)))) tNil))) (gName 4))
  (t_l_step_3 K))
abbrev t_l_step_1 (K : PySem.W.Frag) : TS := (tSeq (tAsg (tCall (sp_l_due K) [] E0 (tCons (tVar 1) (tCons (tVar 2) tNil))) (gName 3))
  (t_l_step_2 K))
abbrev t_l_step (K : PySem.W.Frag) : TS := (t_l_step_1 K)
theorem pure_l_step {K : PySem.W.Frag} (vs : List V) (H : Hp) (Q : VK) (E : XK) (h : sp_l_step K vs H Q E) : t_l_step K { nx := fun _ H' => Q .non H', rt := Q } (L2.start ["_law_house", "_law_files", "_law_deed", "_law_due_here", "_law_turns", "_law_k"] vs) H := by
  obtain ⟨Rs, p_a_house, a_house, p_a_files, a_files, v_a_deed, a_deed, P, rfl, S0, hf, hk⟩ := h
  show t_l_step K _ [some (V.ref p_a_house), some (V.ref p_a_files), some v_a_deed, none, none, none] H
  refine g_seq (g_asg (g_call (g_cons (g_var rfl (g_cons (g_var rfl (g_nil (⟨_, _, _, _, _, _, rfl, (M.at (M.addA S0 (EnF.at 2 rfl)) 2 rfl), hf, fun x2 u5 H4 hf (S3 : M (da K u5 (eA x2) :: adR K iS (eL eI) p_a_files a_files :: R_House K p_a_house a_house :: da K v_a_deed (eA a_deed) :: Rs) H4) => ?_⟩))))))))
  refine g_nx (g_seq (g_asg (g_op (g_c (g_cb (g_cons ?_))))))
  refine te_cut hf (fun H => M (da K u5 (eA x2) :: adR K iS (eL eI) p_a_files a_files :: R_House K p_a_house a_house :: da K v_a_deed (eA a_deed) :: Rs) H) (fun kk8 P9 hP10 hf => ?_) ?_
  ·
    refine g_andV (g_op (g_var rfl (g_c (v_notNa (M.gotA S3 0 rfl) (g_bl (v_iff hf (fun _ hf => ?_) (fun _ hf => ?_)))))))
    ·
      refine g_op (g_op (g_cb (g_cons (g_op (g_var rfl (g_c ?_))))))
      obtain ⟨x13, h14, hf⟩ := hf
      refine v_ixa S3 3 rfl h14 fun u15 S16 => ?_
      refine g_nil ?_
      obtain ⟨x18, h19, hf⟩ := hf
      have S20 := M.cstA S16 0 rfl h19
      obtain rfl := (S20.gotA 0 rfl).strV
      have S21 := S20.tl
      obtain ⟨h22, hf⟩ := hf
      obtain ⟨h23, hf⟩ := hf
      refine v_lenS h22 (g_c (v_mod h23 (g_c (v_eqI ?_))))
      exact hP10 _ _ hf (M.sub (.cons 1 rfl (.cons 1 rfl (.cons 1 rfl (.cons 1 rfl (.tl (.refl _)))))) S21)
    ·
      exact hP10 _ _ hf (M.sub (.cons 0 rfl (.cons 0 rfl (.cons 0 rfl (.cons 0 rfl (.refl _))))) S3)
  intro c7 H25 hf S24
  refine g_nil (v_intB (v_add (g_nx (jn_cut (β := PyData × (List (Str × (List Int)))) hf (fun (s26 : PyData × (List (Str × (List Int)))) σ H' => ∃ (u31 : V), σ = [some (V.ref p_a_house), some (V.ref p_a_files), some v_a_deed, some u31, some (V.int (1 + (if c7 = true then (1 : Int) else 0))), none] ∧ M (da K u31 (eA s26.1) :: adR K iS (eL eI) p_a_files s26.2 :: R_House K p_a_house a_house :: da K v_a_deed (eA a_deed) :: Rs) H') (fun kk28 N29 hN30 hf => ?_) ?_))))
  ·
    refine g_if (g_test (g_op (g_var rfl (g_c (v_isNa (M.gotA S24 0 rfl) (g_bl (v_iff hf (fun _ hf => ?_) (fun _ hf => ?_))))))))
    ·
      refine g_asg (g_tup (g_cons (g_c (g_cons (g_call (g_cons (g_var rfl (g_cons (g_var rfl (g_nil (⟨_, _, _, _, _, _, rfl, (M.at (M.addA S24 (EnF.at 3 rfl)) 2 rfl), hf, fun x35 m36 u39 H38 hf (S37 : M (da K u39 (eA x35) :: adR K iS (eL eI) p_a_files m36 :: da K u5 (eA x2) :: R_House K p_a_house a_house :: da K v_a_deed (eA a_deed) :: Rs) H38) => ?_⟩)))))))))))
      refine g_nil (v_tupq S37 (EnF.consA (EnF.all fun _ => .str _) (EnF.consA (EnF.at 0 rfl) EnF.nilA)) (len_ok rfl) fun p41 H43 (S42 : M (da K (V.ref p41) ((eP eS eA) (("told" : Str), x35)) :: da K u39 (eA x35) :: adR K iS (eL eI) p_a_files m36 :: da K u5 (eA x2) :: R_House K p_a_house a_house :: da K v_a_deed (eA a_deed) :: Rs) H43) => ?_)
      exact hN30 _ _ _ hf ⟨_, rfl, (M.sub (.cons 0 rfl (.cons 1 rfl (.cons 2 rfl (.cons 2 rfl (.tl (.tl (.refl _))))))) S42)⟩
    ·
      refine g_next ?_
      exact hN30 _ _ _ hf ⟨_, rfl, (M.sub (.cons 0 rfl (.cons 0 rfl (.cons 0 rfl (.cons 0 rfl (.refl _))))) S24)⟩
  rintro s26 _ H46 hf ⟨u31, rfl, S45⟩
  obtain ⟨h47, hf⟩ := hf
  refine g_ret (g_cb (g_cons (g_lc (g_iRng1 (g_cons (g_var rfl (g_nil (v_itR h47 ?_))))))))
  refine lc_rngS (K := K) (e' := eB) (fun (s59 : ((List (Str × (List Int))))) => R_House K p_a_house s59 :: da K u31 (eA s26.1) :: adR K iS (eL eI) p_a_files s26.2 :: da K v_a_deed (eA a_deed) :: Rs) hf (M.sub (.cons 2 rfl (.cons 0 rfl (.cons 0 rfl (.cons 0 rfl (.refl _))))) S45) (fun x51 s59 acc48 E49 H57 kk50 N52 hl53 S56 hf hp54 hn55 => ?_) (fun E49 acc48 s59 H73 hf S72 => ?_)
  ·
    refine g_name (g_wipe rfl (g_yes (v_ifT (g_call (g_cons (g_call (g_cons (g_var rfl (g_cons (g_var rfl (g_nil (⟨_, _, _, _, _, _, rfl, (M.at (M.addA S56 (EnF.at 4 rfl)) 2 rfl), hf, fun x62 m63 u66 H65 hf (S64 : M (da K u66 (eA x62) :: R_House K p_a_house m63 :: acR K E49 (acc48.map eB) :: da K u31 (eA s26.1) :: adR K iS (eL eI) p_a_files s26.2 :: da K v_a_deed (eA a_deed) :: Rs) H65) => ?_⟩))))))))))))
    refine g_cons (g_var rfl (g_nil ?_))
    obtain ⟨h68, hf⟩ := hf
    refine ⟨_, _, _, rfl, (M.gotA S64 0 rfl), (Dq.by_ h68.1 (M.gotA S64 3 rfl)), h68.2, ?_⟩
    refine acR_put S64 2 rfl (EnF.all fun _ => .bl _) hl53 fun H70 (S69 : M (acR K E49 (acc48.map eB ++ [eB true]) :: da K u66 (eA x62) :: R_House K p_a_house m63 :: da K u31 (eA s26.1) :: adR K iS (eL eI) p_a_files s26.2 :: da K v_a_deed (eA a_deed) :: Rs) H70) => ?_
    exact hp54 _ _ _ hf (M.sub (.cons 0 rfl (.cons 1 rfl (.cons 1 rfl (.cons 1 rfl (.cons 1 rfl (.tl (.refl _))))))) S69)
  have S75 : M (da K (V.ref E49) ((eL eB) acc48) :: R_House K p_a_house s59 :: da K u31 (eA s26.1) :: adR K iS (eL eI) p_a_files s26.2 :: da K v_a_deed (eA a_deed) :: Rs) H73 := acR_fixL S72
  refine g_nil (v_all (M.gotA S75 0 rfl) ?_)
  exact hk _ _ _ _ hf (M.sub (.cons 1 rfl (.cons 2 rfl (.tl (.tl (.tl (.refl _)))))) S75)
def p_l_kinds (a_house : ((List (Str × (List Int))))) (a_deed : PyData) (P : Bool → ((List (Str × (List Int)))) → Prop) : Prop := jn (β := ((List (Str × (List Int))))) (fun k2 => p_l_call a_house a_deed (fun x16 m14 => (match x16 with | .Wrong w23 => False | .TooMany w24 => jn (fun k30 => k30 (!false)) fun c26 => P c26 m14 | .NoFile w38 => jn (fun k44 => k44 (!false)) fun c40 => P c40 m14 | .There w52 => jn (fun k58 => k58 (!false)) fun c54 => P c54 m14)) fun x9 m10 => k2 m10) fun s1 => P false s1
def sp_l_kinds (K : PySem.W.Frag) : Sp := fun vs H Q _ => ∃ (Rs : List Res) (p_a_house : Addr) (a_house : ((List (Str × (List Int))))) (v_a_deed : V) (a_deed : PyData) (P : Bool → ((List (Str × (List Int)))) → Prop), vs = [(V.ref p_a_house), v_a_deed] ∧ M (R_House K p_a_house a_house :: da K v_a_deed (eA a_deed) :: Rs) H ∧ p_l_kinds a_house a_deed P ∧ ∀ (r : Bool) (m1 : ((List (Str × (List Int))))) H', P r m1 → M (R_House K p_a_house m1 :: Rs) H' → Q (V.bl r) H'
theorem len_l_kinds {K : PySem.W.Frag} (vs : List V) (H : Hp) (Q : VK) (E : XK) (h : sp_l_kinds K vs H Q E) : vs.length = 2 := by
  obtain ⟨Rs, p_a_house, a_house, v_a_deed, a_deed, P, rfl, _⟩ := h
  rfl
abbrev t_l_kinds_1 (K : PySem.W.Frag) : TS := (tSeq (tTry K W0 (fun W => (tDrop (tCallW W (sp_l_call K) [] (tCons (tVar 0) (tCons (tVar 1) tNil))))) [⟨[.ref (He.ga K "NoFile")], some 2, fun a cls d => (tRet (tAndV (tCB (uIsX K a cls d) (tCons (tVar 2) (tCons (tC (.ty "LookupError")) tNil))) (tNotV (tCB (uIsX K a cls d) (tCons (tVar 2) (tCons (tTup (tCons (tC (.ref (He.ga K "There"))) (tCons (tC (.ref (He.ga K "TooMany"))) (tCons (tC (.ref (He.ga K "Wrong"))) tNil)))) tNil))))))⟩, ⟨[.ref (He.ga K "There")], some 2, fun a cls d => (tRet (tAndV (tCB (uIsX K a cls d) (tCons (tVar 2) (tCons (tC (.ty "ValueError")) tNil))) (tNotV (tCB (uIsX K a cls d) (tCons (tVar 2) (tCons (tTup (tCons (tC (.ref (He.ga K "NoFile"))) (tCons (tC (.ref (He.ga K "TooMany"))) (tCons (tC (.ref (He.ga K "Wrong"))) tNil)))) tNil))))))⟩, ⟨[.ref (He.ga K "TooMany")], some 2, fun a cls d => (tRet (tAndV (tCB (uIsX K a cls d) (tCons (tVar 2) (tCons (tC (.ty "ValueError")) tNil))) (tNotV (tCB (uIsX K a cls d) (tCons (tVar 2) (tCons (tTup (tCons (tC (.ref (He.ga K "NoFile"))) (tCons (tC (.ref (He.ga K "There"))) (tCons (tC (.ref (He.ga K "Wrong"))) tNil)))) tNil))))))⟩])
  (tRet (tC (.bl false))))
abbrev t_l_kinds (K : PySem.W.Frag) : TS := (t_l_kinds_1 K)
theorem pure_l_kinds {K : PySem.W.Frag} (T : TxC K) (vs : List V) (H : Hp) (Q : VK) (E : XK) (h : sp_l_kinds K vs H Q E) : t_l_kinds K { nx := fun _ H' => Q .non H', rt := Q } (L2.start ["_law_house", "_law_deed", "_law_e"] vs) H := by
  obtain ⟨Rs, p_a_house, a_house, v_a_deed, a_deed, P, rfl, S0, hf, hk⟩ := h
  show t_l_kinds K _ [some (V.ref p_a_house), some v_a_deed, none] H
  refine jn_cut (β := ((List (Str × (List Int))))) hf (fun (s1 : ((List (Str × (List Int))))) σ H' => ∃ (o7 : Option V), σ = [some (V.ref p_a_house), some v_a_deed, o7] ∧ M (R_House K p_a_house s1 :: da K v_a_deed (eA a_deed) :: Rs) H') (fun kk3 N4 hN5 hf => ?_) ?_
  ·
    refine g_try (g_drop (g_callW (g_cons (g_var rfl (g_cons (g_var rfl (g_nil (⟨_, _, _, _, _, _, _, rfl, (M.at (M.addA S0 (EnF.at 1 rfl)) 1 rfl), hf, fun x16 m14 d17 v18 H20 hf (S19 : M (pt d17 (.xd [(x16.fld, v18)]) :: da K v18 x16.val :: R_House K p_a_house m14 :: da K v_a_deed (eA a_deed) :: Rs) H20) => ?_, fun x9 m10 u13 H12 hf (S11 : M (da K u13 (eA x9) :: R_House K p_a_house m10 :: da K v_a_deed (eA a_deed) :: Rs) H12) => ?_⟩))))))))
    ·
      cases x16 with
      | Wrong w23 =>
        refine v_hdN (exm_cons T.xm_Wrong_NoFile rfl) ?_
        refine v_hdN (exm_cons T.xm_Wrong_There rfl) ?_
        refine v_hdN (exm_cons T.xm_Wrong_TooMany rfl) ?_
        exact hf.elim
      | TooMany w24 =>
        refine v_hdN (exm_cons T.xm_TooMany_NoFile rfl) ?_
        refine v_hdN (exm_cons T.xm_TooMany_There rfl) ?_
        refine v_hdY (exm_cons T.xm_TooMany_TooMany rfl) fun a25 => ?_
        refine g_ret ?_
        refine te_cut hf (fun H => M (pt d17 (.xd [("most", v18)]) :: da K v18 w24 :: R_House K p_a_house m14 :: da K v_a_deed (eA a_deed) :: Rs) H) (fun kk27 P28 hP29 hf => ?_) ?_
        ·
          refine g_andV (g_cb (g_cons (g_var rfl (g_cons (g_c (g_nil (v_isXT T.xc_TooMany (S19.got 0 rfl) T.xk_TooMany_ValueError (g_bl (v_ifT (g_notV (g_cb (g_cons (g_var rfl (g_cons (g_tup (g_cons (g_c (g_cons (g_c (g_cons (g_c (g_nil (v_tup S19 (len_ok rfl) fun p32 H34 (S33 : M (pt p32 (.tup [V.ref (He.ga K "NoFile"), V.ref (He.ga K "There"), V.ref (He.ga K "Wrong")]) :: pt d17 (.xd [("most", v18)]) :: da K v18 w24 :: R_House K p_a_house m14 :: da K v_a_deed (eA a_deed) :: Rs) H34) => ?_)))))))))))))))))))))))
          refine g_nil (v_isXs (b := false) T.xc_TooMany (S33.got 1 rfl) (S33.got 0 rfl) (.cons (.own _) (.cons (.own _) (.cons (.own _) .nil))) (kit_cons T.xk_TooMany_NoFile (kit_cons T.xk_TooMany_There (kit_cons T.xk_TooMany_Wrong rfl))) (g_bl ?_))
          exact hP29 _ _ hf (M.sub (.cons 1 rfl (.cons 1 rfl (.cons 1 rfl (.cons 1 rfl (.tl (.refl _)))))) S33)
        intro c26 H37 hf S36
        exact hk _ _ _ hf (M.sub (.cons 2 rfl (.tl (.tl (.tl (.refl _))))) S36)
      | NoFile w38 =>
        refine v_hdY (exm_cons T.xm_NoFile_NoFile rfl) fun a39 => ?_
        refine g_ret ?_
        refine te_cut hf (fun H => M (pt d17 (.xd [("name", v18)]) :: da K v18 w38 :: R_House K p_a_house m14 :: da K v_a_deed (eA a_deed) :: Rs) H) (fun kk41 P42 hP43 hf => ?_) ?_
        ·
          refine g_andV (g_cb (g_cons (g_var rfl (g_cons (g_c (g_nil (v_isXT T.xc_NoFile (S19.got 0 rfl) T.xk_NoFile_LookupError (g_bl (v_ifT (g_notV (g_cb (g_cons (g_var rfl (g_cons (g_tup (g_cons (g_c (g_cons (g_c (g_cons (g_c (g_nil (v_tup S19 (len_ok rfl) fun p46 H48 (S47 : M (pt p46 (.tup [V.ref (He.ga K "There"), V.ref (He.ga K "TooMany"), V.ref (He.ga K "Wrong")]) :: pt d17 (.xd [("name", v18)]) :: da K v18 w38 :: R_House K p_a_house m14 :: da K v_a_deed (eA a_deed) :: Rs) H48) => ?_)))))))))))))))))))))))
          refine g_nil (v_isXs (b := false) T.xc_NoFile (S47.got 1 rfl) (S47.got 0 rfl) (.cons (.own _) (.cons (.own _) (.cons (.own _) .nil))) (kit_cons T.xk_NoFile_There (kit_cons T.xk_NoFile_TooMany (kit_cons T.xk_NoFile_Wrong rfl))) (g_bl ?_))
          exact hP43 _ _ hf (M.sub (.cons 1 rfl (.cons 1 rfl (.cons 1 rfl (.cons 1 rfl (.tl (.refl _)))))) S47)
        intro c40 H51 hf S50
        exact hk _ _ _ hf (M.sub (.cons 2 rfl (.tl (.tl (.tl (.refl _))))) S50)
      | There w52 =>
        refine v_hdN (exm_cons T.xm_There_NoFile rfl) ?_
        refine v_hdY (exm_cons T.xm_There_There rfl) fun a53 => ?_
        refine g_ret ?_
        refine te_cut hf (fun H => M (pt d17 (.xd [("thing", v18)]) :: da K v18 w52 :: R_House K p_a_house m14 :: da K v_a_deed (eA a_deed) :: Rs) H) (fun kk55 P56 hP57 hf => ?_) ?_
        ·
          refine g_andV (g_cb (g_cons (g_var rfl (g_cons (g_c (g_nil (v_isXT T.xc_There (S19.got 0 rfl) T.xk_There_ValueError (g_bl (v_ifT (g_notV (g_cb (g_cons (g_var rfl (g_cons (g_tup (g_cons (g_c (g_cons (g_c (g_cons (g_c (g_nil (v_tup S19 (len_ok rfl) fun p60 H62 (S61 : M (pt p60 (.tup [V.ref (He.ga K "NoFile"), V.ref (He.ga K "TooMany"), V.ref (He.ga K "Wrong")]) :: pt d17 (.xd [("thing", v18)]) :: da K v18 w52 :: R_House K p_a_house m14 :: da K v_a_deed (eA a_deed) :: Rs) H62) => ?_)))))))))))))))))))))))
          refine g_nil (v_isXs (b := false) T.xc_There (S61.got 1 rfl) (S61.got 0 rfl) (.cons (.own _) (.cons (.own _) (.cons (.own _) .nil))) (kit_cons T.xk_There_NoFile (kit_cons T.xk_There_TooMany (kit_cons T.xk_There_Wrong rfl))) (g_bl ?_))
          exact hP57 _ _ hf (M.sub (.cons 1 rfl (.cons 1 rfl (.cons 1 rfl (.cons 1 rfl (.tl (.refl _)))))) S61)
        intro c54 H65 hf S64
        exact hk _ _ _ hf (M.sub (.cons 2 rfl (.tl (.tl (.tl (.refl _))))) S64)
    exact hN5 _ _ _ hf ⟨_, rfl, (M.sub (.cons 1 rfl (.cons 1 rfl (.tl (.refl _)))) S11)⟩
  rintro s1 _ H67 hf ⟨o7, rfl, S66⟩
  refine g_ret (g_c ?_)
  exact hk _ _ _ hf (M.sub (.cons 0 rfl (.tl (.refl _))) S66)
theorem u_bag {K : PySem.W.Frag} {Rs : List Res} {H : Hp} {a : Addr} {ns : List Int} {Q : VK} {E : XK} (S : M Rs H) (h : Ent Rs (fun H => SqL K H a (ns.map V.int))) (hl : ns.length ≤ 63) (k : ∀ bag H', M (bagR bag :: Rs) H' → Q (.ref bag) H') :
    sp_l_bag K ([.ref a] ++ []) H Q E := ⟨Rs, a, ns, rfl, S, h, hl, k⟩
def sp_law (K : PySem.W.Frag) : Sp := fun vs H Q _ => ∃ (a : Addr) (ns : List Int), vs = [.ref a] ∧ SqL K H a (ns.map V.int) ∧ ns.length ≤ 63 ∧ ∀ H', Q (.bl true) H'
theorem len_law {K : PySem.W.Frag} (vs : List V) (H : Hp) (Q : VK) (E : XK) (h : sp_law K vs H Q E) : vs.length = 1 := by
  obtain ⟨x, y, rfl, _⟩ := h
  rfl
theorem law_start (K : PySem.W.Frag) (H : Hp) (a : Addr) (ns : List Int) (hl : ns.length ≤ 63) (hS : SqL K H a (ns.map V.int)) : sp_law K [.ref a] H (fun v _ => v = .bl true) fun _ _ _ => False := ⟨a, ns, rfl, hS, hl, fun _ => rfl⟩
def p_law (P : Bool → Prop) : Prop := p_l_names 10 fun x1 => p_House___init__  fun x12 => takeD 9 fun n21 => forD (fun (x31 : Str) (s28 : ((List (Str × (List Int)))) × (List (Str × (List Int)))) (k29 : (((List (Str × (List Int)))) × (List (Str × (List Int)))) → Prop) => p_l_content fun x37 => p_l_step s28.1 s28.2 ((eT3 eS eS (eL eI)) (("write" : Str), x31, x37)) fun x47 m48 m49 => if (!x47) = true then (P false) else (k29 (m48, m49))) (cutL x1 none (some n21)) (x12, ([] : (List (Str × (List Int))))) fun s28 => ((-(2 ^ 62) : Int) ≤ 24 ∧ 24 < (2 ^ 62 : Int)) ∧ forD (fun (x59 : Int) (s56 : ((List (Str × (List Int)))) × (List (Str × (List Int)))) (k57 : (((List (Str × (List Int)))) × (List (Str × (List Int)))) → Prop) => p_l_any ([("write" : Str), ("drop" : Str), ("move" : Str), ("move" : Str), ("content" : Str)]) fun x75 => p_l_any x1 fun x80 => jn (β := PyData) (fun k89 => if (decide (x75 = ("write" : Str))) = true then (p_l_content fun x95 => ∃ x104 : (List PyData), ((eP eS eS) (x75, x80)) = (eV eA) x104 ∧ (x104).length + ((([x95]).map (eL eI))).length ≤ 100000 ∧ k89 ((eV eA) (cat x104 (([x95]).map (eL eI))))) else (k89 ((eP eS eS) (x75, x80)))) fun s88 => jn (β := PyData) (fun k118 => if (decide (x75 = ("move" : Str))) = true then (p_l_any x1 fun x125 => ∃ x133 : (List PyData), s88 = (eV eA) x133 ∧ (x133).length + ((([x125]).map eS)).length ≤ 100000 ∧ k118 ((eV eA) (cat x133 (([x125]).map eS)))) else (k118 s88)) fun s117 => p_l_due s56.2 s117 fun x147 => jn2 (fun (k156 : Bool → (((List (Str × (List Int))))) → Prop) => if (!isNo x147) = true then (p_l_kinds s56.1 s117 fun x160 m161 => k156 (!x160) m161) else (k156 false s56.1)) fun c152 s157 => if c152 = true then (P false) else (jn (fun k171 => if (!isNo x147) = true then (p_l_same s157 s56.2 fun x173 => k171 (!x173)) else (k171 false)) fun c167 => if c167 = true then (P false) else (jn2 (fun (k183 : Bool → (((List (Str × (List Int)))) × (List (Str × (List Int)))) → Prop) => if (!isNo x147) = true then (p_l_step s157 s56.2 s117 fun x188 m189 m190 => k183 (!x188) (m189, m190)) else (k183 false (s157, s56.2))) fun c179 s184 => if c179 = true then (P false) else (jn2 (fun (k200 : Bool → (((List (Str × (List Int)))) × (List (Str × (List Int)))) → Prop) => if (!(!isNo x147)) = true then (jn2 (fun (k208 : Bool → (((List (Str × (List Int)))) × (List (Str × (List Int)))) → Prop) => takeD 3 fun n213 => if (decide (0 < n213)) = true then (p_l_step s184.1 s184.2 s117 fun x217 m218 m219 => k208 (!x217) (m218, m219)) else (k208 false (s184.1, s184.2))) fun c204 s209 => k200 c204 (s209.1, s209.2)) else (k200 false (s184.1, s184.2))) fun c196 s201 => if c196 = true then (P false) else (k57 (s201.1, s201.2)))))) (rng 24) (s28.1, s28.2) fun s56 => p_l_same s56.1 s56.2 fun x229 => P x229
/-! ### the plain law -/
theorem forD_inv {α β : Type} {f : α → β → (β → Prop) → Prop} (Inv : Nat → β → Prop) : ∀ {xs : List α} {s : β} {k : β → Prop} {n : Nat}, Inv n s →
    (∀ (i : Nat) x s (kk : β → Prop), xs[i]? = some x → Inv (n + i) s → (∀ s', Inv (n + i + 1) s' → kk s') → f x s kk) → (∀ s, Inv (n + xs.length) s → k s) → forD f xs s k
  | [], s, k, n, h0, _, hd => hd s h0
  | x :: xs, s, k, n, h0, hs, hd => by
    refine hs 0 x s _ rfl h0 fun s' h' => ?_
    refine forD_inv Inv (n := n + 1) h' (fun i y s kk hy hi hk => ?_) (fun s hi => hd s ?_)
    · refine hs (i + 1) y s kk (by simpa using hy) ?_ fun s' hs' => hk s' ?_
      · rw [show n + (i + 1) = n + 1 + i by omega]
        exact hi
      · rw [show n + 1 + i + 1 = n + (i + 1) + 1 by omega]
        exact hs'
    · rw [List.length_cons, show n + (xs.length + 1) = n + 1 + xs.length by omega]
      exact hi
theorem lcD_map {α β : Type} {f : α → (Option β → Prop) → Prop} {k : List β → Prop} (g : α → β) : ∀ {xs : List α} {acc : List β}, (∀ x ∈ xs, ∀ kk : Option β → Prop, kk (some (g x)) → f x kk) → k (acc ++ xs.map g) → lcD f xs acc k
  | [], acc, _, h => by simpa [lcD] using h
  | x :: xs, acc, hs, h => by
    refine hs x List.mem_cons_self _ ?_
    refine lcD_map g (fun y hy => hs y (List.mem_cons_of_mem _ hy)) ?_
    simpa using h
/-- some of what may be: each item good -/
theorem lcD_all {α β : Type} {f : α → (Option β → Prop) → Prop} {k : List β → Prop} (G : β → Prop) : ∀ {xs : List α} {acc : List β}, (∀ x ∈ xs, ∀ kk : Option β → Prop, (∀ y, G y → kk (some y)) → f x kk) → (∀ y ∈ acc, G y) →
    (∀ ys, (∀ y ∈ ys, G y) → ys.length = acc.length + xs.length → k ys) → lcD f xs acc k
  | [], acc, _, ha, h => h acc ha rfl
  | x :: xs, acc, hs, ha, h => by
    refine hs x List.mem_cons_self _ fun y hy => ?_
    refine lcD_all G (fun z hz => hs z (List.mem_cons_of_mem _ hz)) (fun z hz => ?_) fun ys hys hl => h ys hys ?_
    · rcases List.mem_append.mp hz with hz | hz
      · exact ha z hz
      · have : z = y := by simpa using hz
        rw [this]
        exact hy
    · rw [hl]
      simp
      omega
def GN (s : Str) : Prop := 1 ≤ s.length ∧ s.length ≤ 8 ∧ ∀ c ∈ s.cps.toList, 97 ≤ c ∧ c ≤ 122
def GC (ns : List Int) : Prop := ns.length ≤ 48 ∧ ∀ n ∈ ns, 0 ≤ n ∧ n ≤ 999
theorem letters_mem {c : Nat} (h : 97 ≤ c ∧ c ≤ 122) : c ∈ ("abcdefghijklmnopqrstuvwxyz" : Str).cps.toList := by
  have key : ∀ i : Fin 26, (97 + i.val) ∈ ("abcdefghijklmnopqrstuvwxyz" : Str).cps.toList := by decide +kernel
  have := key ⟨c - 97, by omega⟩
  rwa [show 97 + (c - 97) = c by omega] at this
theorem tk {n : Int} {k : Int → Prop} (h : 0 < n ∧ n < 2 ^ 62) (g : ∀ v, 0 ≤ v → v < n → k v) : takeD n k := ⟨h, g⟩
theorem atI_ex {α : Type} {xs : List α} {i : Int} (h0 : 0 ≤ i) (h1 : i < xs.length) : ∃ x ∈ xs, atI xs i = some x := by
  have hl : i.toNat < xs.length := by omega
  exact ⟨xs[i.toNat], List.getElem_mem hl, atI_int h0 (List.getElem?_eq_getElem hl)⟩
theorem rng_mem {n x : Int} (h : x ∈ rng n) : 0 ≤ x ∧ x < n := by
  unfold rng at h
  obtain ⟨i, hi, rfl⟩ := List.mem_map.mp h
  have := List.mem_range.mp hi
  omega
theorem cmul {a b : Int} (h : 0 ≤ b ∧ b < 2 ^ 62) (ha : 0 ≤ a ∧ a < 2 ^ 62) : CMul a b ∨ CMulW a b := .inl (.inl ⟨by omega, by omega⟩)
theorem content_ok {P : List Int → Prop} (h : ∀ ns, GC ns → P ns) : p_l_content P := by
  unfold p_l_content
  refine tk (by decide) fun pick l1 u1 => tk (by decide) fun a la ua => tk (by decide) fun b lb ub => tk (by decide) fun c lc uc => tk (by decide) fun w lw uw => ?_
  obtain ⟨x, hx, e⟩ := atI_ex (xs := [a, b, c]) lw (by simpa using uw)
  refine ⟨x, e, ?_⟩
  have hx2 : 0 ≤ x ∧ x ≤ 48 := by
    simp only [List.mem_cons, List.not_mem_nil, or_false] at hx
    rcases hx with rfl | rfl | rfl <;> omega
  have hl : (rng x).length ≤ 48 := by
    rw [rng_len]
    omega
  have fin : ∀ {f : Int → (Option Int → Prop) → Prop}, (∀ x, ∀ kk : Option Int → Prop, (∀ y, 0 ≤ y ∧ y ≤ 999 → kk (some y)) → f x kk) → ((-(2 ^ 62) : Int) ≤ x ∧ x < (2 ^ 62 : Int)) ∧ (rng x).length ≤ 100000 ∧ lcD f (rng x) [] P := by
    intro f hs
    refine ⟨by omega, by omega, lcD_all (fun y => 0 ≤ y ∧ y ≤ 999) (fun z _ kk hk => hs z kk hk) (fun _ h => nomatch h) fun ys hy hy2 => h ys ⟨?_, hy⟩⟩
    rw [hy2]
    simpa using hl
  have eta : (fun acc => P acc) = P := rfl
  split
  · refine fin fun z kk hk => tk (by decide) fun v lv uv => ?_
    obtain ⟨y, hy, e⟩ := atI_ex (xs := [(1 : Int), 7, 2]) lv (by simpa using uv)
    refine ⟨y, e, hk y ?_⟩
    simp only [List.mem_cons, List.not_mem_nil, or_false] at hy
    rcases hy with rfl | rfl | rfl <;> omega
  · split
    · exact fin fun z kk hk => tk (by decide) fun v lv uv => ⟨cmul (by omega) (by omega), hk _ (by omega)⟩
    · split
      · exact fin fun z kk hk => tk (by decide) fun v lv uv => ⟨cmul (by omega) (by omega), hk _ (by omega)⟩
      · split
        · refine fin fun z kk hk => tk (by decide) fun v lv uv => ?_
          obtain ⟨y, hy, e⟩ := atI_ex (xs := [(0 : Int), 999]) lv (by simpa using uv)
          refine ⟨y, e, hk y ?_⟩
          simp only [List.mem_cons, List.not_mem_nil, or_false] at hy
          rcases hy with rfl | rfl <;> omega
        · exact fin fun z kk hk => tk (by decide) fun v lv uv => hk _ (by omega)
theorem is_sign_ok {x : Int} {P : Bool → Prop} (hx : 0 ≤ x ∧ x ≤ 999) (h : P true) : p_is_sign x P := by
  unfold p_is_sign p_is_whole jn
  show P (decide (0 ≤ x) && decide (x ≤ 999))
  rw [decide_eq_true hx.1, decide_eq_true hx.2]
  exact h
theorem is_content_ok {ns : List Int} {P : Bool → Prop} (g : GC ns) (h : P true) : p_is_content ns P := by
  unfold p_is_content p_are_signs
  have h1 := g.1
  rw [if_neg (by simp; omega)]
  refine forD_inv (fun _ _ => True) (n := 0) trivial (fun i x s kk hx _ hk => is_sign_ok (g.2 x (List.mem_of_getElem? hx)) ?_) fun _ _ => h
  show if (!true) = true then _ else _
  exact hk () trivial
theorem is_name_ok {s : Str} {P : Bool → Prop} (g : GN s) (h : P true) : p_is_name s P := by
  unfold p_is_name jn
  obtain ⟨h1, h2, h3⟩ := g
  rw [if_neg (by decide)]
  refine ⟨by omega, ?_⟩
  rw [if_pos (by simp; omega)]
  dsimp only
  rw [if_neg (by simp; omega)]
  refine forD_inv (fun _ _ => True) (n := 0) trivial (fun i x s' kk hx _ hk => ?_) fun _ _ => h
  obtain ⟨c, hc, rfl⟩ := List.mem_map.mp (List.mem_of_getElem? hx)
  have hr := h3 c hc
  refine ⟨true, ?_, ?_⟩
  · show some (decide (c ∈ ("abcdefghijklmnopqrstuvwxyz" : Str).cps.toList)) = some true
    congr 1
    exact decide_eq_true (letters_mem hr)
  · show if (!true) = true then _ else _
    exact hk () trivial
theorem join_cps' : ∀ ys : List Str, (Str.join ("" : Str) ys).cps.toList = (ys.map (·.cps.toList)).flatten
  | [] => rfl
  | [x] => by
    show x.cps.toList = _
    simp
  | x :: y :: r => by
    have ih := join_cps' (y :: r)
    show ((x.cps ++ (#[] : Array Nat)) ++ (Str.join ("" : Str) (y :: r)).cps).toList = _
    rw [Array.toList_append, ih]
    simp
theorem join_cps (ys : List Str) : (Txt.join ("" : Str) ys).cps.toList = (ys.map (·.cps.toList)).flatten := by
  rw [← join_cps', ← StrLaws.glued_eq_join]
  rfl
/-- one letter -/
def G1 (c : Str) : Prop := ∃ n, c = ⟨#[n]⟩ ∧ 97 ≤ n ∧ n ≤ 122
theorem letter_at {i : Int} (h0 : 0 ≤ i) (h1 : i < 26) : ∃ c, atS ("abcdefghijklmnopqrstuvwxyz" : Str) i = some c ∧ G1 c := by
  have key : ∀ k : Fin 26, atS ("abcdefghijklmnopqrstuvwxyz" : Str) (k.val : Int) = some ⟨#[97 + k.val]⟩ := by decide +kernel
  have z := key ⟨i.toNat, by omega⟩
  have e : ((i.toNat : Nat) : Int) = i := by omega
  simp only [e] at z
  exact ⟨_, z, _, rfl, by omega, by omega⟩
theorem flat_len {ys : List Str} (h : ∀ y ∈ ys, G1 y) : ((ys.map (·.cps.toList)).flatten).length = ys.length ∧ ∀ c ∈ (ys.map (·.cps.toList)).flatten, 97 ≤ c ∧ c ≤ 122 := by
  induction ys with
  | nil => exact ⟨rfl, fun _ h => nomatch h⟩
  | cons y r ih =>
    obtain ⟨n, rfl, h1, h2⟩ := h y List.mem_cons_self
    obtain ⟨a, b⟩ := ih fun z hz => h z (List.mem_cons_of_mem _ hz)
    refine ⟨by simpa using a, fun c hc => ?_⟩
    rw [List.map_cons, List.flatten_cons] at hc
    rcases List.mem_append.mp hc with hc | hc
    · have : c = n := by simpa using hc
      omega
    · exact b c hc
theorem join_GN {ys : List Str} (h : ∀ y ∈ ys, G1 y) (h1 : 1 ≤ ys.length) (h2 : ys.length ≤ 8) : GN (Txt.join ("" : Str) ys) := by
  have e := join_cps ys
  obtain ⟨a, b⟩ := flat_len h
  have hl : (Txt.join ("" : Str) ys).length = ys.length := by
    show (Txt.join ("" : Str) ys).cps.size = _
    rw [← Array.length_toList, e, a]
  exact ⟨by omega, by omega, fun c hc => b c (by rw [← e]; exact hc)⟩
theorem sIx_int {n d : Nat} {i : Int} (h : 0 ≤ i) : HT.sIx n d (some i) = min i.toNat n := by
  have := HT.sIx_nat n d i.toNat
  rwa [show ((i.toNat : Nat) : Int) = i by omega] at this
theorem cut_hi {α : Type} {xs : List α} {i : Int} (h : 0 ≤ i) : cutL xs none (some i) = xs.take i.toNat := by
  unfold cutL
  rw [sIx_int h, HT.sIx_none, List.drop_zero, Nat.sub_zero]
  rcases Nat.le_total i.toNat xs.length with z | z
  · rw [Nat.min_eq_left z]
  · rw [Nat.min_eq_right z, List.take_of_length_le (Nat.le_refl _), List.take_of_length_le z]
theorem cut_lo {α : Type} {xs : List α} {i : Int} (h : 0 ≤ i) : cutL xs (some i) none = xs.drop i.toNat := by
  unfold cutL
  rw [sIx_int h, HT.sIx_none]
  rcases Nat.le_total i.toNat xs.length with z | z
  · rw [Nat.min_eq_left z, List.take_of_length_le]
    rw [List.length_drop]
    exact Nat.le_refl _
  · rw [Nat.min_eq_right z, List.drop_of_length_le z, List.drop_of_length_le (Nat.le_refl _), List.take_nil]
def GNb (s : Str) : Bool := decide (1 ≤ s.length) && (decide (s.length ≤ 8) && s.cps.toList.all fun c => decide (97 ≤ c) && decide (c ≤ 122))
theorem GNb_ok {s : Str} (h : GNb s = true) : GN s := by
  unfold GNb at h
  simp only [Bool.and_eq_true, decide_eq_true_eq, List.all_eq_true] at h
  exact ⟨h.1, h.2.1, h.2.2⟩
def words31 : List Str := [("none" : Str), ("log" : Str), ("full" : Str), ("step" : Str), ("wide" : Str), ("a" : Str), ("ab" : Str), ("files" : Str), ("run" : Str), ("put" : Str), ("gone" : Str), ("moments" : Str)]
theorem words_ok : ∀ w ∈ words31, GN w := by
  have key : (words31.all GNb) = true := by decide +kernel
  intro w hw
  exact GNb_ok (List.all_eq_true.mp key w hw)
theorem names_ok {k : Int} (hk0 : 0 ≤ k ∧ k ≤ 12) {P : List Str → Prop} (h : ∀ ns : List Str, ns.length = k.toNat → (∀ s ∈ ns, GN s) → P ns) : p_l_names k P := by
  unfold p_l_names
  refine tk (by decide) fun pick l1 u1 => tk (by decide) fun turn l2 u2 => tk (by decide) fun sz l3 u3 => tk (by omega) fun at_ l4 u4 => ?_
  have hz : (rng (1 + sz)).length = (1 + sz).toNat := rng_len _
  refine ⟨by omega, by omega, lcD_all G1 (fun x _ kk hk => tk (by decide) fun v lv uv => ?_) (fun _ h => nomatch h) fun base hb hl => ?_⟩
  · obtain ⟨c, e, g⟩ := letter_at lv uv
    exact ⟨c, e, hk c g⟩
  have hbl : base.length = (1 + sz).toNat := by rw [hl, hz]; simp
  split
  · refine ⟨by decide, by decide, h _ ?_ ?_⟩
    · rw [cut_lo (by omega), cut_hi hk0.1, List.length_take, List.length_drop]
      show min k.toNat (24 - (turn % 12).toNat) = k.toNat
      have : turn % 12 < 12 := by omega
      have : 0 ≤ turn % 12 := by omega
      omega
    · intro s hs
      rw [cut_lo (by omega), cut_hi hk0.1] at hs
      have hs2 := List.mem_of_mem_drop (List.mem_of_mem_take hs)
      rcases List.mem_append.mp hs2 with z | z
      · exact words_ok s z
      · exact words_ok s z
  · refine ⟨by omega, by rw [rng_len]; omega, lcD_all GN (fun x hx kk hk => ?_) (fun _ h => nomatch h) fun ys hy hyl => h ys ?_ hy⟩
    · obtain ⟨c, e, g⟩ := letter_at (i := (turn + x) % 26) (by omega) (by omega)
      have e1 : cutL base none (some at_) = base.take at_.toNat := cut_hi l4
      have e2 : cutL base (some (at_ + 1)) none = base.drop (at_ + 1).toNat := cut_lo (by omega)
      have gl : (cat (cat (cutL base none (some at_)) [c]) (cutL base (some (at_ + 1)) none)).length = base.length := by
        rw [e1, e2]
        show ((base.take at_.toNat ++ [c]) ++ base.drop (at_ + 1).toNat).length = _
        rw [List.length_append, List.length_append, List.length_take, List.length_drop]
        simp
        omega
      have ga : ∀ y ∈ cat (cat (cutL base none (some at_)) [c]) (cutL base (some (at_ + 1)) none), G1 y := by
        rw [e1, e2]
        intro y hy
        rcases List.mem_append.mp hy with hy | hy
        · rcases List.mem_append.mp hy with hy | hy
          · exact hb y (List.mem_of_mem_take hy)
          · rw [show y = c by simpa using hy]
            exact g
        · exact hb y (List.mem_of_mem_drop hy)
      have gj : GN (Txt.join ("" : Str) (cat (cat (cutL base none (some at_)) [c]) (cutL base (some (at_ + 1)) none))) := join_GN ga (by rw [gl]; omega) (by rw [gl]; omega)
      have sm : ∀ l : List Str, (∀ y ∈ l, G1 y) → (l.map (·.length)).sum = l.length := by
        intro l hl
        induction l with
        | nil => rfl
        | cons y r ih =>
          obtain ⟨n, rfl, _⟩ := hl y List.mem_cons_self
          rw [List.map_cons, List.sum_cons, ih fun z hz => hl z (List.mem_cons_of_mem _ hz), List.length_cons]
          show 1 + _ = _
          omega
      refine ⟨by decide, c, e, ?_, ?_, ?_, hk _ gj⟩
      · rw [e1, List.length_take]
        simp
        omega
      · have := gl
        unfold cat at this ⊢
        rw [List.length_append] at this
        omega
      · rw [sm _ ga, gl]
        show base.length + base.length * 0 ≤ _
        omega
    · rw [hyl, rng_len]
      simp
structure GF (m : List (Str × List Int)) : Prop where
  nd : (ks m).Nodup
  nm : ∀ q ∈ m, GN q.1 ∧ GC q.2
  ln : m.length ≤ 8
theorem nd_le {α : Type} [DecidableEq α] : ∀ {xs ys : List α}, xs.Nodup → (∀ x ∈ xs, x ∈ ys) → xs.length ≤ ys.length
  | [], _, _, _ => Nat.zero_le _
  | x :: xs, ys, nd, h => by
    obtain ⟨h1, h2⟩ := List.nodup_cons.mp nd
    have := nd_le (ys := ys.erase x) h2 fun z hz => (List.mem_erase_of_ne (fun e => h1 (by rw [← e]; exact hz))).mpr (h z (List.mem_cons_of_mem _ hz))
    rw [List.length_erase_of_mem (h x List.mem_cons_self)] at this
    have := List.length_pos_of_mem (h x List.mem_cons_self)
    rw [List.length_cons]
    omega
theorem canLay_ints' : ∀ ns : List Int, PyData.canLayAll0 (ns.map PyData.int) = true
  | [] => rfl
  | n :: r => by simp [PyData.canLayAll0, PyData.canLay0, canLay_ints' r]
theorem depth_ints' : ∀ ns : List Int, PyData.depthAll (ns.map PyData.int) = 0
  | [] => rfl
  | n :: r => by simp [PyData.depthAll, PyData.depth, depth_ints' r]
theorem shaped_ints' (ns : List Int) : SeqAt.shaped (eL eI ns) = true := by
  unfold SeqAt.shaped eL
  rw [Bool.and_eq_true]
  refine ⟨by simpa [PyData.canLay0] using canLay_ints' ns, decide_eq_true ?_⟩
  simp only [PyData.depth]
  rw [depth_ints']
  decide
theorem GF.nil : GF [] := ⟨List.nodup_nil, (fun _ h => nomatch h), by decide⟩
theorem lk_mem {γ : Type} {m : List (Str × γ)} {n : Str} {x : γ} (h : lk m n = some x) : (n, x) ∈ m := by
  unfold lk at h
  cases e : m.find? fun p => decide (p.1 = n) with
  | none => rw [e] at h; cases h
  | some q =>
    rw [e] at h
    have h1 := List.mem_of_find?_eq_some e
    have h2 : q.1 = n := by simpa using List.find?_some e
    cases h
    rw [← h2]
    exact h1
theorem lk_some {γ : Type} {m : List (Str × γ)} {n : Str} (h : n ∈ ks m) : ∃ x, lk m n = some x := by
  induction m with
  | nil => cases h
  | cons q m ih =>
    rw [lk_cons]
    by_cases z : q.1 = n
    · exact ⟨_, if_pos z⟩
    · rw [if_neg z]
      exact ih ((List.mem_cons.mp h).resolve_left fun e => z e.symm)
theorem pk_keys {γ : Type} {m : List (Str × γ)} {n : Str} {x : γ} : ks (pk m n x) = if (lk m n).isSome then ks m else ks m ++ [n] := by
  unfold pk
  rw [any_lk]
  split
  · unfold ks
    rw [List.map_map]
    refine List.map_congr_left fun q _ => ?_
    show (if q.1 = n then (q.1, x) else q).1 = q.1
    split <;> rfl
  · simp [ks]
theorem not_mem_of_lk {γ : Type} {m : List (Str × γ)} {n : Str} (h : lk m n = none) : n ∉ ks m := fun z => by
  obtain ⟨x, e⟩ := lk_some z
  rw [h] at e
  cases e
theorem GF.put {m : List (Str × List Int)} {n : Str} {ns : List Int} (g : GF m) (hn : GN n) (hc : GC ns) (hl : (lk m n).isSome = true ∨ m.length < 8) : GF (pk m n ns) := by
  refine ⟨?_, fun q hq => ?_, ?_⟩
  · rw [pk_keys]
    cases e : lk m n with
    | none =>
      simp only [Option.isSome, Bool.false_eq_true, if_false]
      exact List.nodup_append.mpr ⟨g.nd, by simp, fun a ha b hb z => not_mem_of_lk e (by rw [← show b = n by simpa using hb, ← z]; exact ha)⟩
    | some x => exact g.nd
  · unfold pk at hq
    split at hq
    · obtain ⟨p, hp, rfl⟩ := List.mem_map.mp hq
      have := g.nm p hp
      split
      · exact ⟨this.1, hc⟩
      · exact this
    · rcases List.mem_append.mp hq with hq | hq
      · exact g.nm q hq
      · rw [show q = (n, ns) by simpa using hq]
        exact ⟨hn, hc⟩
  · unfold pk
    rw [any_lk]
    have := g.ln
    split
    · rw [List.length_map]
      exact this
    · rename_i z
      rw [List.length_append]
      simp
      rcases hl with h | h
      · exact absurd h z
      · omega
/-- what is told of all files -/
def cont (m : List (Str × List Int)) : List (Str × List Int) := (srtS' (ks m)).map fun n => (n, (lk m n).getD [])
theorem dcD_nd {f : Str → List (Str × List Int) → (Option (Str × List Int) → Prop) → Prop} {k : List (Str × List Int) → Prop} (g : Str → List Int) : ∀ {xs : List Str} {acc : List (Str × List Int)}, xs.Nodup → (∀ x ∈ xs, x ∉ ks acc) →
    (∀ x ∈ xs, ∀ acc (kk : Option (Str × List Int) → Prop), lk acc x = none → kk (some (x, g x)) → f x acc kk) → k (acc ++ xs.map fun x => (x, g x)) → dcD f xs acc k
  | [], acc, _, _, _, h => by simpa [dcD] using h
  | x :: xs, acc, nd, hn, hs, h => by
    obtain ⟨n1, n2⟩ := List.nodup_cons.mp nd
    have hx : lk acc x = none := by
      cases e : lk acc x with
      | none => rfl
      | some y => exact absurd (List.mem_map.mpr ⟨(x, y), lk_mem e, rfl⟩) (hn x List.mem_cons_self)
    refine hs x List.mem_cons_self acc _ hx ?_
    have e1 : pk acc x (g x) = acc ++ [(x, g x)] := by
      unfold pk
      rw [any_lk, hx]
      rfl
    show dcD f xs (pk acc x (g x)) k
    rw [e1]
    refine dcD_nd g n2 (fun y hy hz => ?_) (fun y hy => hs y (List.mem_cons_of_mem _ hy)) (by simpa using h)
    unfold ks at hz
    rw [List.map_append] at hz
    rcases List.mem_append.mp hz with hz | hz
    · exact hn y (List.mem_cons_of_mem _ hy) hz
    · rw [show y = x by simpa using hz] at hy
      exact n1 hy
theorem srt_nd {xs : List Str} (h : xs.Nodup) : (srtS' xs).Nodup := (srtS_perm xs).nodup_iff.mpr h
theorem srt_len (xs : List Str) : (srtS' xs).length = xs.length := (srtS_perm xs).length_eq
theorem ks_len {γ : Type} (m : List (Str × γ)) : (ks m).length = m.length := by simp [ks]
theorem srt_mem {xs : List Str} {x : Str} (h : x ∈ srtS' xs) : x ∈ xs := (srtS_perm xs).mem_iff.mp h
theorem contents_ok {m : List (Str × List Int)} {P : List (Str × List Int) → Prop} (g : GF m) (h : P (cont m)) : p_House_contents m P := by
  unfold p_House_contents
  have := g.ln
  refine ⟨by rw [ks_len]; omega, by rw [srt_len, ks_len]; omega, dcD_nd (fun n => (lk m n).getD []) (srt_nd g.nd) (fun x _ z => nomatch z) (fun x hx acc kk h1 h2 => ?_) h⟩
  obtain ⟨y, hy⟩ := lk_some (srt_mem hx)
  rw [hy] at h2
  exact ⟨y, hy, h1, h2⟩
theorem cont_keys (m : List (Str × List Int)) : ks (cont m) = srtS' (ks m) := by
  unfold ks cont
  rw [List.map_map]
  exact List.map_id'' (fun _ => rfl) _
theorem dOf_nd {m acc : List (Str × List Int)} (h : (ks (acc ++ m)).Nodup) : m.foldl (fun acc q => pk acc q.1 q.2) acc = acc ++ m := by
  induction m generalizing acc with
  | nil => simp
  | cons q m ih =>
    have hx : q.1 ∉ ks acc := by
      unfold ks at h ⊢
      rw [List.map_append, List.map_cons, List.nodup_append] at h
      exact fun z => h.2.2 _ z _ List.mem_cons_self rfl
    have hn : lk acc q.1 = none := by
      cases e : lk acc q.1 with
      | none => rfl
      | some y => exact absurd (List.mem_map.mpr ⟨(q.1, y), lk_mem e, rfl⟩) hx
    have e1 : pk acc q.1 q.2 = acc ++ [q] := by
      unfold pk
      rw [any_lk, hn]
      rfl
    rw [List.foldl_cons, e1, ih (by simpa using h)]
    simp
theorem dOf_cont {m : List (Str × List Int)} (g : GF m) : dOf (cont m) = cont m := by
  have := dOf_nd (m := cont m) (acc := []) (by rw [List.nil_append, cont_keys]; exact srt_nd g.nd)
  simpa [dOf] using this
theorem GN.shq {s : Str} (g : GN s) : ShQ 0 8 (.str s) := by
  refine ⟨?_, rfl, ?_, by simp [PyData.depth], ?_⟩
  · show SeqAt.shaped (.str s) = true
    unfold SeqAt.shaped
    rw [Bool.and_eq_true]
    refine ⟨?_, by simp [PyData.depth]⟩
    simp only [PyData.canLay0, PyData.strOk]
    rw [Array.all_eq_true']
    intro c hc
    have := g.2.2 c (by simpa using hc)
    exact decide_eq_true (by omega)
  · simp only [PyData.leavesShort, List.all_eq_true]
    intro c hc
    have := g.2.2 c hc
    exact decide_eq_true (by omega)
  · exact g.2.1
theorem GC.shq {ns : List Int} (g : GC ns) : ShQ 1 48 (eL eI ns) := by
  have h := ShQ.list (dp := 0) (bk := 0) (ds := ns.map eI) fun d hd => by
    obtain ⟨n, hn, rfl⟩ := List.mem_map.mp hd
    have := g.2 n hn
    exact ShQ.int (Nat.lt_of_lt_of_le (show n.natAbs < 2 ^ 10 by omega) (by decide))
  rw [List.length_map] at h
  exact h.up (Nat.le_refl _) (by have := g.1; omega)
theorem strs_shq {xs : List Str} (h : ∀ x ∈ xs, GN x) (hl : xs.length ≤ 8) : ShQ 1 72 (eL eS xs) := by
  have h := ShQ.list (dp := 0) (bk := 8) (ds := xs.map eS) fun d hd => by
    obtain ⟨n, hn, rfl⟩ := List.mem_map.mp hd
    exact (h n hn).shq
  rw [List.length_map] at h
  exact h.up (Nat.le_refl _) (by omega)
theorem nd_map {α β : Type} {f : α → β} (inj : ∀ a b, f a = f b → a = b) : ∀ {l : List α}, l.Nodup → (l.map f).Nodup
  | [], _ => List.nodup_nil
  | x :: r, h => by
    obtain ⟨h1, h2⟩ := List.nodup_cons.mp h
    rw [List.map_cons]
    refine List.nodup_cons.mpr ⟨fun z => ?_, nd_map inj h2⟩
    obtain ⟨y, hy, e⟩ := List.mem_map.mp z
    rw [inj _ _ e] at hy
    exact h1 hy
theorem dict_shq : ∀ {m : List (Str × List Int)}, (ks m).Nodup → (∀ q ∈ m, GN q.1 ∧ GC q.2) → ShQ 2 (m.length * 58) (eD iS (eL eI) m) := by
  intro m nd h
  have key : ∀ {m : List (Str × List Int)}, (∀ q ∈ m, GN q.1 ∧ GC q.2) → dOkK (m.map fun p => (kD (iS p.1), eL eI p.2)) ∧ PyData.showableKv (m.map fun p => (kD (iS p.1), eL eI p.2)) = true ∧ PyData.leavesShortKv 400 (m.map fun p => (kD (iS p.1), eL eI p.2)) = true ∧
      PyData.depthKv (m.map fun p => (kD (iS p.1), eL eI p.2)) ≤ 1 ∧ PyData.bulkKv (m.map fun p => (kD (iS p.1), eL eI p.2)) ≤ m.length * 58 := by
    intro m
    induction m with
    | nil => exact fun _ => ⟨trivial, rfl, rfl, Nat.zero_le _, Nat.zero_le _⟩
    | cons q m ih =>
      intro h
      obtain ⟨h0, h1, h2, h3, h4⟩ := ih fun z hz => h z (List.mem_cons_of_mem _ hz)
      obtain ⟨a, b⟩ := h q List.mem_cons_self
      have sa : ShQ 0 8 (kD (iS q.1)) := a.shq
      have sb := b.shq
      refine ⟨⟨sb.ok, h0⟩, ?_, ?_, ?_, ?_⟩
      · simp [PyData.showableKv, sa.sh, sb.sh, h1]
      · simp [PyData.leavesShortKv, sa.lf, sb.lf, h2]
      · simp only [List.map_cons, PyData.depthKv]
        have := sa.dp
        have := sb.dp
        omega
      · simp only [List.map_cons, PyData.bulkKv, List.length_cons]
        have := sa.bk
        have := sb.bk
        omega
  obtain ⟨h0, h1, h2, h3, h4⟩ := key h
  refine ⟨⟨?_, h0⟩, by simpa [PyData.showable, eD] using h1, by simpa [PyData.leavesShort, eD] using h2, ?_, by simpa [PyData.bulk, eD] using h4⟩
  · rw [List.map_map]
    have e : ((fun x : PyData × PyData => x.1) ∘ fun p : Str × List Int => (kD (iS p.1), eL eI p.2)) = (fun n : Str => kD (iS n)) ∘ (fun p : Str × List Int => p.1) := rfl
    rw [e, ← List.map_map]
    exact nd_map (fun a b z => injS _ _ (kD_inj z)) nd
  · simp only [eD, PyData.depth]
    omega
theorem cont_good {m : List (Str × List Int)} (g : GF m) : GF (cont m) := by
  refine ⟨by rw [cont_keys]; exact srt_nd g.nd, fun q hq => ?_, ?_⟩
  · obtain ⟨n, hn, rfl⟩ := List.mem_map.mp hq
    obtain ⟨y, hy⟩ := lk_some (srt_mem hn)
    have := g.nm _ (lk_mem hy)
    dsimp only
    rw [hy]
    exact this
  · have := g.ln
    unfold cont
    rw [List.length_map, srt_len, ks_len]
    exact this
theorem names_good {m : List (Str × List Int)} (g : GF m) : ∀ x ∈ srtS' (ks m), GN x := fun x hx => by
  obtain ⟨q, hq, rfl⟩ := List.mem_map.mp (srt_mem hx)
  exact (g.nm q hq).1
theorem same_ok {m : List (Str × List Int)} {P : Bool → Prop} (g : GF m) (h : P true) : p_l_same m m P := by
  unfold p_l_same p_House_names_of p_House___len__
  have hl := g.ln
  have hk : (ks m).length < 64 := by rw [ks_len]; omega
  refine ⟨hk, contents_ok g ⟨by omega, hk, hk, by rw [srt_len]; omega, ?_⟩⟩
  refine lcD_map (fun n => (n, (lk m n).getD [])) (fun x hx kk hkk => ?_) ?_
  · obtain ⟨y, hy⟩ := lk_some (srt_mem hx)
    rw [hy] at hkk
    exact ⟨y, hy, hkk⟩
  · rw [List.nil_append]
    have e : dOf ((srtS' (ks m)).map fun n => (n, (lk m n).getD [])) = cont m := dOf_cont g
    rw [e]
    refine ⟨⟨rfl, ?_⟩, h⟩
    have hd := dict_shq (cont_good g).nd (cont_good g).nm
    have hc := (cont_good g).ln
    have sl : ShQ 3 1500 (.list [eL eS (srtS' (ks m)), eD iS (eL eI) (cont m), eI (m.length : Int)]) := by
      refine (ShQ.list (dp := 2) (bk := 464) fun d hd' => ?_).up (Nat.le_refl _) (by simp)
      simp only [List.mem_cons, List.not_mem_nil, or_false] at hd'
      rcases hd' with rfl | rfl | rfl
      · exact (strs_shq (names_good g) (by rw [srt_len, ks_len]; exact hl)).up (by decide) (by decide)
      · exact hd.up (Nat.le_refl _) (by omega)
      · exact (ShQ.int (Nat.lt_of_lt_of_le (show ((m.length : Int)).natAbs < 2 ^ 10 by omega) (by decide))).up (by decide) (by decide)
    exact sl.alk (by decide) (by decide)
theorem wds : ((("write" : Str) = ("drop" : Str)) = False) ∧ ((("write" : Str) = ("move" : Str)) = False) ∧ ((("write" : Str) = ("content" : Str)) = False) ∧ ((("write" : Str) = ("become" : Str)) = False) ∧ ((("drop" : Str) = ("write" : Str)) = False) ∧ ((("drop" : Str) = ("move" : Str)) = False) ∧ ((("drop" : Str) = ("content" : Str)) = False) ∧ ((("drop" : Str) = ("become" : Str)) = False) ∧ ((("move" : Str) = ("write" : Str)) = False) ∧ ((("move" : Str) = ("drop" : Str)) = False) ∧ ((("move" : Str) = ("content" : Str)) = False) ∧ ((("move" : Str) = ("become" : Str)) = False) ∧ ((("content" : Str) = ("write" : Str)) = False) ∧ ((("content" : Str) = ("drop" : Str)) = False) ∧ ((("content" : Str) = ("move" : Str)) = False) ∧ ((("content" : Str) = ("become" : Str)) = False) ∧ ((("become" : Str) = ("write" : Str)) = False) ∧ ((("become" : Str) = ("drop" : Str)) = False) ∧ ((("become" : Str) = ("move" : Str)) = False) ∧ ((("become" : Str) = ("content" : Str)) = False) := by
  refine ⟨eq_false (by decide), eq_false (by decide), eq_false (by decide), eq_false (by decide), eq_false (by decide), eq_false (by decide), eq_false (by decide), eq_false (by decide), eq_false (by decide), eq_false (by decide), eq_false (by decide), eq_false (by decide), eq_false (by decide), eq_false (by decide), eq_false (by decide), eq_false (by decide), eq_false (by decide), eq_false (by decide), eq_false (by decide), eq_false (by decide)⟩
/-! ### deeds -/
abbrev Fs := List (Str × List Int)
inductive Dd where
  | write (n : Str) (c : List Int)
  | drop (n : Str)
  | move (n k : Str)
  | content (n : Str)
def Dd.dat : Dd → PyData
  | .write n c => .tuple [.str "write", .str n, eL eI c]
  | .drop n => .tuple [.str "drop", .str n]
  | .move n k => .tuple [.str "move", .str n, .str k]
  | .content n => .tuple [.str "content", .str n]
def Dd.ok : Dd → Prop
  | .write n c => GN n ∧ GC c
  | .drop n => GN n
  | .move n k => GN n ∧ GN k
  | .content n => GN n
def dueF (m : Fs) : Dd → Option Ex
  | .write n _ => if (!(lk m n).isSome && decide (m.length = 8)) = true then some (.TooMany (.int 8)) else none
  | .drop n => if (lk m n).isSome = true then none else some (.NoFile (.str n))
  | .content n => if (lk m n).isSome = true then none else some (.NoFile (.str n))
  | .move n k => if (lk m n).isSome = true then (if (lk m k).isSome = true then some (.There (.str k)) else none) else some (.NoFile (.str n))
def exD (x : Ex) : PyData := eP eS eA (x.cls, x.val)
def dueD (m : Fs) (d : Dd) : PyData := match dueF m d with
  | none => .none
  | some x => exD x
def doF (m : Fs) : Dd → PyData × Fs
  | .write n c => (.none, pk m n c)
  | .drop n => (.none, dk m n)
  | .move n k => (.none, pk (dk m n) k ((lk m n).getD []))
  | .content n => (eL eI ((lk m n).getD []), m)
def stF (m : Fs) (d : Dd) : Fs := match dueF m d with
  | none => (doF m d).2
  | some _ => m
def saidD (m : Fs) (d : Dd) : PyData := match dueF m d with
  | none => eP eS eA (("told" : Str), (doF m d).1)
  | some x => exD x
theorem len8 (m : Fs) : decide (((m.length : Nat) : Int) = 8) = decide (m.length = 8) := by
  congr 1
  exact propext ⟨fun h => by omega, fun h => by omega⟩
theorem due_ok {m : Fs} {d : Dd} {P : PyData → Prop} (h : P (dueD m d)) : p_l_due m d.dat P := by
  unfold p_l_due jn
  cases d with
  | write n c =>
    refine ⟨[.str "write", .str n, eL eI c], rfl, (.str "write", .str n), rfl, _, rfl, _, rfl, ?_⟩
    unfold dueD dueF at h
    simp only [wds, decide_true, decide_false, Bool.true_and, len8, List.any_cons, List.any_nil, Bool.or_false, Bool.false_eq_true, if_false] at h ⊢
    split
    · rename_i z
      rw [if_pos z] at h
      exact h
    · rename_i z
      rw [if_neg z] at h
      exact h
  | drop n =>
    refine ⟨[.str "drop", .str n], rfl, (.str "drop", .str n), rfl, _, rfl, _, rfl, ?_⟩
    unfold dueD dueF at h
    simp only [wds, decide_true, decide_false, Bool.false_and, Bool.true_or, len8, List.any_cons, List.any_nil, Bool.or_false, Bool.false_eq_true, if_false, if_true] at h ⊢
    cases e : lk m n with
    | none =>
      rw [e] at h
      exact h
    | some x =>
      rw [e] at h
      exact h
  | content n =>
    refine ⟨[.str "content", .str n], rfl, (.str "content", .str n), rfl, _, rfl, _, rfl, ?_⟩
    unfold dueD dueF at h
    simp only [wds, decide_true, decide_false, Bool.false_and, Bool.true_or, Bool.or_true, len8, List.any_cons, List.any_nil, Bool.or_false, Bool.false_eq_true, if_false, if_true] at h ⊢
    cases e : lk m n with
    | none =>
      rw [e] at h
      exact h
    | some x =>
      rw [e] at h
      exact h
  | move n k =>
    refine ⟨[.str "move", .str n, .str k], rfl, (.str "move", .str n), rfl, _, rfl, _, rfl, ?_⟩
    unfold dueD dueF at h
    simp only [wds, decide_true, decide_false, Bool.false_and, Bool.true_or, Bool.or_true, Bool.false_or, len8, List.any_cons, List.any_nil, Bool.or_false, Bool.false_eq_true, if_false, if_true] at h ⊢
    cases e : lk m n with
    | none =>
      rw [e] at h
      exact h
    | some x =>
      rw [e] at h
      show ∃ x53, _
      refine ⟨.str k, rfl, k, rfl, ?_⟩
      cases e2 : lk m k with
      | none =>
        rw [e2] at h
        exact h
      | some y =>
        rw [e2] at h
        exact ⟨.str k, rfl, h⟩
theorem do_ok {m : Fs} {d : Dd} {P : PyData → Fs → Prop} (g : GF m) (hd : dueF m d = none) (h : P (doF m d).1 (doF m d).2) : p_l_do m d.dat P := by
  unfold p_l_do jn
  have hl := g.ln
  cases d with
  | write n c =>
    refine ⟨[.str "write", .str n, eL eI c], rfl, (.str "write", .str n), rfl, _, rfl, _, rfl, ?_⟩
    simp only [wds, decide_true, decide_false, Bool.false_eq_true, if_false, if_true]
    exact ⟨_, rfl, c, rfl, by omega, h⟩
  | drop n =>
    refine ⟨[.str "drop", .str n], rfl, (.str "drop", .str n), rfl, _, rfl, _, rfl, ?_⟩
    simp only [wds, decide_true, decide_false, Bool.false_eq_true, if_false, if_true]
    cases e : lk m n with
    | none =>
      simp [dueF, e] at hd
    | some x => exact ⟨x, rfl, h⟩
  | content n =>
    refine ⟨[.str "content", .str n], rfl, (.str "content", .str n), rfl, _, rfl, _, rfl, ?_⟩
    simp only [wds, decide_true, decide_false, Bool.false_eq_true, if_false, if_true]
    simp only [doF] at h
    cases e : lk m n with
    | none =>
      simp [dueF, e] at hd
    | some x =>
      rw [e] at h
      exact ⟨x, rfl, h⟩
  | move n k =>
    refine ⟨[.str "move", .str n, .str k], rfl, (.str "move", .str n), rfl, _, rfl, _, rfl, ?_⟩
    simp only [wds, decide_true, decide_false, Bool.false_eq_true, if_false, if_true]
    simp only [doF] at h
    cases e : lk m n with
    | none =>
      simp [dueF, e] at hd
    | some x =>
      rw [e] at h
      have : (dk m n).length ≤ m.length := List.length_filter_le _ _
      exact ⟨x, rfl, _, rfl, k, rfl, by omega, h⟩
theorem need_ok {m : Fs} {n : Str} {X : Ex → Prop} {P : Unit → Prop} (h1 : lk m n = none → X (.NoFile (.str n))) (h2 : ∀ x, lk m n = some x → P ()) : p_House_need_file m n X P := by
  unfold p_House_need_file
  cases e : lk m n with
  | none => exact h1 e
  | some x => exact h2 x e
theorem call_ok {m : Fs} {d : Dd} {X : Ex → Fs → Prop} {P : PyData → Fs → Prop} (g : GF m) (hd : d.ok) (h : match dueF m d with | none => P (doF m d).1 (doF m d).2 | some x => X x m) : p_l_call m d.dat X P := by
  unfold p_l_call
  have hl := g.ln
  cases d with
  | write n c =>
    refine ⟨_, rfl, ("write" : Str), rfl, ?_⟩
    simp only [wds, decide_true, decide_false, Bool.false_eq_true, if_false, if_true]
    refine ⟨_, rfl, _, rfl, n, rfl, c, rfl, ?_⟩
    unfold p_House_write p_wanted
    refine is_name_ok hd.1 ?_
    rw [if_neg (by decide)]
    refine is_content_ok hd.2 ?_
    rw [if_neg (by decide), len8]
    simp only [dueF] at h
    split
    · rename_i z
      rw [if_pos z] at h
      exact h
    · rename_i z
      rw [if_neg z] at h
      exact ⟨by omega, h⟩
  | drop n =>
    refine ⟨_, rfl, ("drop" : Str), rfl, ?_⟩
    simp only [wds, decide_true, decide_false, Bool.false_eq_true, if_false, if_true]
    refine ⟨_, rfl, ("drop" : Str), rfl, ?_⟩
    rw [if_pos (by decide)]
    refine ⟨_, rfl, n, rfl, ?_⟩
    unfold p_House_drop p_wanted
    refine is_name_ok hd ?_
    rw [if_neg (by decide)]
    simp only [dueF] at h
    refine need_ok (fun e => ?_) fun x e => ?_
    · rw [e] at h
      exact h
    · rw [e] at h
      exact ⟨x, e, h⟩
  | move n k =>
    refine ⟨_, rfl, ("move" : Str), rfl, ?_⟩
    simp only [wds, decide_true, decide_false, Bool.false_eq_true, if_false, if_true]
    refine ⟨_, rfl, ("move" : Str), rfl, ?_⟩
    rw [if_neg (by decide)]
    refine ⟨_, rfl, ("move" : Str), rfl, ?_⟩
    rw [if_pos (by decide)]
    refine ⟨_, rfl, _, rfl, n, rfl, k, rfl, ?_⟩
    unfold p_House_move p_wanted
    refine is_name_ok hd.1 ?_
    rw [if_neg (by decide)]
    refine is_name_ok hd.2 ?_
    rw [if_neg (by decide)]
    simp only [dueF, doF] at h
    refine need_ok (fun e => ?_) fun x e => ?_
    · rw [e] at h
      exact h
    · simp only [e, Option.isSome, if_true] at h
      have : (dk m n).length ≤ m.length := List.length_filter_le _ _
      cases e2 : lk m k with
      | none =>
        rw [e2] at h
        exact ⟨x, e, by omega, h⟩
      | some y =>
        rw [e2] at h
        exact h
  | content n =>
    refine ⟨_, rfl, ("content" : Str), rfl, ?_⟩
    simp only [wds, decide_true, decide_false, Bool.false_eq_true, if_false, if_true]
    refine ⟨_, rfl, ("content" : Str), rfl, ?_⟩
    rw [if_neg (by decide)]
    refine ⟨_, rfl, ("content" : Str), rfl, ?_⟩
    rw [if_neg (by decide)]
    refine ⟨_, rfl, ("content" : Str), rfl, ?_⟩
    rw [if_neg (by decide)]
    refine ⟨_, rfl, n, rfl, ?_⟩
    unfold p_House_content p_wanted
    refine is_name_ok hd ?_
    rw [if_neg (by decide)]
    simp only [dueF, doF] at h
    refine need_ok (fun e => ?_) fun x e => ?_
    · rw [e] at h
      exact h
    · simp only [e, Option.isSome, if_true] at h
      exact ⟨x, e, h⟩
theorem said_ok {m : Fs} {d : Dd} {P : PyData → Fs → Prop} (g : GF m) (hd : d.ok) (h : P (saidD m d) (stF m d)) : p_l_said m d.dat P := by
  unfold p_l_said jn
  refine call_ok g hd ?_
  unfold saidD stF at h
  cases e : dueF m d with
  | none =>
    rw [e] at h
    exact h
  | some x =>
    rw [e] at h
    unfold p_l_refused
    cases x <;> exact h
/-! ### what is told is small -/
theorem canAll : ∀ {ds : List PyData}, (∀ d ∈ ds, d.canLay0 = true) → PyData.canLayAll0 ds = true
  | [], _ => rfl
  | d :: r, h => by
    unfold PyData.canLayAll0
    rw [h d List.mem_cons_self, canAll fun x hx => h x (List.mem_cons_of_mem _ hx)]
    rfl
theorem ShQ.tuple {dp bk : Nat} {ds : List PyData} (h : ∀ d ∈ ds, ShQ dp bk d) (hc : ∀ d ∈ ds, d.canLay0 = true) (hd : dp ≤ 60) : ShQ (dp + 1) (ds.length * (bk + 1)) (.tuple ds) := by
  obtain ⟨h0, h1, h2, h3, h4⟩ := ShQ.all h
  have h5 : (PyData.tuple ds).depth ≤ dp + 1 := by
    simp only [PyData.depth]
    omega
  refine ⟨?_, by simpa [PyData.showable] using h1, by simpa [PyData.leavesShort] using h2, h5, by simpa [PyData.bulk] using h4⟩
  show SeqAt.shaped (.tuple ds) = true
  unfold SeqAt.shaped
  rw [Bool.and_eq_true]
  exact ⟨by unfold PyData.canLay0; exact canAll hc, decide_eq_true (by omega)⟩
theorem ShQ.none_ : ShQ 0 0 .none := ⟨trivial, rfl, rfl, by simp [PyData.depth], by simp [PyData.bulk]⟩
/-- small, and without a dict -/
structure ShT (dp bk : Nat) (d : PyData) : Prop where
  q : ShQ dp bk d
  c : d.canLay0 = true
theorem GN.sht {s : Str} (g : GN s) : ShT 0 8 (.str s) := ⟨g.shq, SeqAt.canLay_of_shaped (show SeqAt.shaped (.str s) = true from g.shq.ok)⟩
theorem GC.sht {ns : List Int} (g : GC ns) : ShT 1 48 (eL eI ns) := ⟨g.shq, SeqAt.canLay_of_shaped (shaped_ints' ns)⟩
theorem ShT.up {dp bk dp' bk' : Nat} {d : PyData} (h : ShT dp bk d) (h1 : dp ≤ dp') (h2 : bk ≤ bk') : ShT dp' bk' d := ⟨h.q.up h1 h2, h.c⟩
theorem pair_alk {s : Str} {d : PyData} (hs : SeqAt.shaped (.str s) = true ∧ (PyData.str s).showable = true ∧ (PyData.str s).leavesShort 400 = true ∧ s.length ≤ 16) (hd : ShT 1 60 d) : AlkOk (eP eS eA (s, d)) := by
  have h1 : ShQ 1 60 (.str s) := ⟨hs.1, hs.2.1, hs.2.2.1, by simp [PyData.depth], Nat.le_trans (show (PyData.str s).bulk ≤ 16 from hs.2.2.2) (by decide)⟩
  exact (ShQ.tuple (ds := [.str s, d]) (dp := 1) (bk := 60) (fun x hx => by
    simp only [List.mem_cons, List.not_mem_nil, or_false] at hx
    rcases hx with rfl | rfl
    · exact h1
    · exact hd.q) (fun x hx => by
    simp only [List.mem_cons, List.not_mem_nil, or_false] at hx
    rcases hx with rfl | rfl
    · exact SeqAt.canLay_of_shaped hs.1
    · exact hd.c) (by decide)).alk (by decide) (by simp)
theorem word_ok (s : Str) (h : (SeqAt.shaped (.str s) && ((PyData.str s).showable && ((PyData.str s).leavesShort 400 && decide (s.length ≤ 16)))) = true) : SeqAt.shaped (.str s) = true ∧ (PyData.str s).showable = true ∧ (PyData.str s).leavesShort 400 = true ∧ s.length ≤ 16 := by
  simp only [Bool.and_eq_true, decide_eq_true_eq] at h
  exact h
theorem lk_good {m : Fs} {n : Str} (g : GF m) : GC ((lk m n).getD []) := by
  cases e : lk m n with
  | none => exact ⟨by decide, fun _ h => nomatch h⟩
  | some x => exact (g.nm _ (lk_mem e)).2
theorem due_small {m : Fs} {d : Dd} {x : Ex} (hd : d.ok) (h : dueF m d = some x) : ShT 1 60 x.val ∧ (∀ w, x ≠ .Wrong w) := by
  have i8 : ShT 1 60 (.int 8) := ⟨(ShQ.int (Nat.lt_of_lt_of_le (show (8 : Int).natAbs < 2 ^ 10 by decide) (by decide))).up (by decide) (by decide), rfl⟩
  cases d with
  | write n c =>
    simp only [dueF] at h
    split at h
    · cases h
      exact ⟨i8, fun _ z => nomatch z⟩
    · cases h
  | drop n =>
    simp only [dueF] at h
    split at h
    · cases h
    · cases h
      exact ⟨(GN.sht hd).up (by decide) (by decide), fun _ z => nomatch z⟩
  | content n =>
    simp only [dueF] at h
    split at h
    · cases h
    · cases h
      exact ⟨(GN.sht hd).up (by decide) (by decide), fun _ z => nomatch z⟩
  | move n k =>
    simp only [dueF] at h
    split at h
    · split at h
      · cases h
        exact ⟨(GN.sht hd.2).up (by decide) (by decide), fun _ z => nomatch z⟩
      · cases h
    · cases h
      exact ⟨(GN.sht hd.1).up (by decide) (by decide), fun _ z => nomatch z⟩
theorem cls_ok (x : Ex) : SeqAt.shaped (.str x.cls) = true ∧ (PyData.str x.cls).showable = true ∧ (PyData.str x.cls).leavesShort 400 = true ∧ x.cls.length ≤ 16 := by
  cases x with
  | Wrong w => exact word_ok ("Wrong" : Str) (by decide +kernel)
  | TooMany w => exact word_ok ("TooMany" : Str) (by decide +kernel)
  | NoFile w => exact word_ok ("NoFile" : Str) (by decide +kernel)
  | There w => exact word_ok ("There" : Str) (by decide +kernel)
theorem said_alk {m : Fs} {d : Dd} (g : GF m) (hd : d.ok) : AlkOk (saidD m d) := by
  unfold saidD
  cases e : dueF m d with
  | some x => exact pair_alk (cls_ok x) (due_small hd e).1
  | none =>
    have nn : ShT 1 60 .none := ⟨ShQ.none_.up (by decide) (by decide), rfl⟩
    refine pair_alk (word_ok _ (by decide +kernel)) ?_
    cases d with
    | content n => exact (GC.sht (lk_good g)).up (Nat.le_refl _) (by decide)
    | _ => exact nn
theorem dk_lk {m : Fs} {n : Str} : lk (dk m n) n = none := by
  cases e : lk (dk m n) n with
  | none => rfl
  | some x =>
    have := (List.mem_filter.mp (lk_mem e)).2
    simp at this
theorem dk_good {m : Fs} {n : Str} (g : GF m) : GF (dk m n) := by
  refine ⟨?_, fun q hq => g.nm q (List.mem_filter.mp hq).1, Nat.le_trans (List.length_filter_le _ _) g.ln⟩
  exact List.Nodup.sublist (List.Sublist.map _ List.filter_sublist) g.nd
theorem dk_len {m : Fs} {n : Str} {x : List Int} (h : lk m n = some x) : (dk m n).length < m.length := by
  unfold dk
  rcases Nat.lt_or_ge (m.filter fun p => decide (p.1 ≠ n)).length m.length with z | z
  · exact z
  · have e := List.length_filter_eq_length_iff.mp (Nat.le_antisymm (List.length_filter_le _ _) z)
    have := e _ (lk_mem h)
    simp at this
theorem st_good {m : Fs} {d : Dd} (g : GF m) (hd : d.ok) : GF (stF m d) := by
  unfold stF
  cases e : dueF m d with
  | some x => exact g
  | none =>
    cases d with
    | write n c =>
      refine g.put hd.1 hd.2 ?_
      simp only [dueF] at e
      split at e
      · cases e
      · rename_i z
        cases e2 : lk m n with
        | some y => exact .inl rfl
        | none =>
          refine .inr ?_
          have := g.ln
          rw [e2] at z
          simp at z
          omega
    | drop n => exact dk_good g
    | content n => exact g
    | move n k =>
      simp only [dueF] at e
      split at e
      · rename_i z
        obtain ⟨x, hx⟩ := Option.isSome_iff_exists.mp z
        refine (dk_good g).put hd.2 (lk_good g) (.inr ?_)
        have := dk_len hx
        have := g.ln
        omega
      · cases e
theorem st_due {m : Fs} {d : Dd} {x : Ex} (h : dueF m d = some x) : stF m d = m := by
  unfold stF
  rw [h]
def Dd.name : Dd → Str
  | .write n _ => n
  | .drop n => n
  | .move n _ => n
  | .content n => n
theorem lcS_all {f : Int → Fs → (Option Bool → Fs → Prop) → Prop} {m : Fs} {k : List Bool → Fs → Prop} (hf : ∀ x kk, kk (some true) m → f x m kk) : ∀ {xs : List Int} {acc : List Bool}, (∀ b ∈ acc, b = true) → (∀ ys : List Bool, (∀ b ∈ ys, b = true) → k ys m) → lcS f xs m acc k
  | [], acc, ha, h => h acc ha
  | x :: xs, acc, ha, h => by
    refine hf x _ (lcS_all hf (fun b hb => ?_) h)
    rcases List.mem_append.mp hb with hb | hb
    · exact ha b hb
    · simpa using hb
theorem all_id {ys : List Bool} (h : ∀ b ∈ ys, b = true) : ys.all id = true := List.all_eq_true.mpr h
theorem step_ok {m : Fs} {d : Dd} {P : Bool → Fs → Fs → Prop} (g : GF m) (hd : d.ok) (h : P true (stF m d) (stF m d)) : p_l_step m m d.dat P := by
  unfold p_l_step
  refine due_ok ?_
  have nm : GN d.name := by
    cases d with
    | write n c => exact hd.1
    | drop n => exact hd
    | move n k => exact hd.1
    | content n => exact hd
  have at1 : anyAt d.dat 1 = some (.str d.name) := by cases d <;> rfl
  unfold jn
  cases e : dueF m d with
  | none =>
    have e1 : dueD m d = .none := by unfold dueD; rw [e]
    rw [e1]
    show if (!isNo PyData.none) = true then _ else _
    rw [if_neg (by decide)]
    show if (isNo PyData.none) = true then _ else _
    rw [if_pos (by decide)]
    refine do_ok g e ?_
    rw [if_neg (by decide)]
    refine ⟨by decide, by decide, ?_⟩
    show lcS _ [0] m [] _
    simp only [lcS]
    refine said_ok g hd ⟨⟨?_, said_alk g hd⟩, ?_⟩
    · show saidD m d = _
      unfold saidD
      rw [e]
      rfl
    · show P true (stF m d) (doF m d).2
      have : (doF m d).2 = stF m d := by unfold stF; rw [e]
      rw [this]
      exact h
  | some x =>
    have e1 : dueD m d = exD x := by unfold dueD; rw [e]
    have e2 : saidD m d = exD x := by unfold saidD; rw [e]
    rw [e1]
    show if (!isNo (exD x)) = true then _ else _
    rw [if_pos (by cases x <;> rfl)]
    refine ⟨_, at1, _, rfl, by have := nm.2.1; omega, by decide, ?_⟩
    show if (isNo (exD x)) = true then _ else _
    rw [if_neg (by cases x <;> exact Bool.false_ne_true)]
    rw [st_due e] at h
    have fin : ∀ t : Int, 1 ≤ t → t ≤ 2 → ((-(2 ^ 62) : Int) ≤ t ∧ t < (2 ^ 62 : Int)) ∧ (rng t).length ≤ 100000 ∧ lcS (fun (x51 : Int) (s59 : Fs) (k58 : Option Bool → Fs → Prop) => p_l_said s59 d.dat fun x62 m63 => ((eA x62) = (eA (exD x)) ∧ AlkOk (eA x62)) ∧ k58 (some true) m63) (rng t) m [] fun acc48 s59 => P (acc48.all id) s59 m := by
      intro t h1 h2
      refine ⟨by omega, by rw [rng_len]; omega, lcS_all (fun y kk hk => said_ok g hd ⟨⟨e2, said_alk g hd⟩, ?_⟩) (fun _ z => nomatch z) fun ys hy => ?_⟩
      · rw [st_due e]
        exact hk
      · rw [all_id hy]
        exact h
    split
    · exact fin 2 (by decide) (by decide)
    · exact fin 1 (by decide) (by decide)
theorem kinds_ok {m : Fs} {d : Dd} {x : Ex} {P : Bool → Fs → Prop} (g : GF m) (hd : d.ok) (e : dueF m d = some x) (h : P true m) : p_l_kinds m d.dat P := by
  unfold p_l_kinds jn
  refine call_ok g hd ?_
  rw [e]
  have hw := (due_small hd e).2
  cases x with
  | Wrong w => exact absurd rfl (hw w)
  | TooMany w => exact h
  | NoFile w => exact h
  | There w => exact h
theorem any_ok {xs : List Str} {P : Str → Prop} (h : ∀ x ∈ xs, P x) (h1 : 0 < xs.length) (h2 : xs.length < 1000) : p_l_any xs P := by
  unfold p_l_any
  refine tk (by omega) fun v lv uv => ?_
  obtain ⟨x, hx, e⟩ := atI_ex (xs := xs) lv uv
  exact ⟨x, e, h x hx⟩
theorem turn_ok {m : Fs} {d : Dd} {Z : Prop} {k57 : Fs × Fs → Prop} (g : GF m) (hd : d.ok) (hk : ∀ m', GF m' → k57 (m', m')) : p_l_due m d.dat fun x147 =>
    jn2 (fun (k156 : Bool → Fs → Prop) => if (!isNo x147) = true then (p_l_kinds m d.dat fun x160 m161 => k156 (!x160) m161) else (k156 false m)) fun c152 s157 => if c152 = true then Z else (jn (fun k171 => if (!isNo x147) = true then (p_l_same s157 m fun x173 => k171 (!x173)) else (k171 false)) fun c167 => if c167 = true then Z else (
    jn2 (fun (k183 : Bool → (Fs × Fs) → Prop) => if (!isNo x147) = true then (p_l_step s157 m d.dat fun x188 m189 m190 => k183 (!x188) (m189, m190)) else (k183 false (s157, m))) fun c179 s184 => if c179 = true then Z else (
    jn2 (fun (k200 : Bool → (Fs × Fs) → Prop) => if (!(!isNo x147)) = true then (
    jn2 (fun (k208 : Bool → (Fs × Fs) → Prop) => takeD 3 fun n213 => if (decide (0 < n213)) = true then (p_l_step s184.1 s184.2 d.dat fun x217 m218 m219 => k208 (!x217) (m218, m219)) else (k208 false (s184.1, s184.2))) fun c204 s209 => k200 c204 (s209.1, s209.2)) else (k200 false (s184.1, s184.2))) fun c196 s201 => if c196 = true then Z else (k57 (s201.1, s201.2))))) := by
  refine due_ok ?_
  unfold jn2 jn
  cases e : dueF m d with
  | none =>
    have e1 : dueD m d = .none := by unfold dueD; rw [e]
    rw [e1]
    simp only [isNo, Bool.not_true, Bool.not_false, Bool.false_eq_true, if_false, if_true]
    refine tk (by decide) fun v lv uv => ?_
    split
    · refine step_ok g hd ?_
      simp only [Bool.not_true, Bool.false_eq_true, if_false]
      exact hk _ (st_good g hd)
    · exact hk _ g
  | some x =>
    have e1 : dueD m d = exD x := by unfold dueD; rw [e]
    have e2 : isNo (dueD m d) = false := by rw [e1]; cases x <;> rfl
    rw [e2]
    simp only [Bool.not_true, Bool.not_false, Bool.false_eq_true, if_false, if_true]
    refine kinds_ok g hd e ?_
    simp only [Bool.not_true, Bool.false_eq_true, if_false]
    refine same_ok g ?_
    simp only [Bool.not_true, Bool.false_eq_true, if_false]
    refine step_ok g hd ?_
    simp only [Bool.not_true, Bool.false_eq_true, if_false]
    exact hk _ (st_good g hd)
theorem law_plain : p_law (fun b => b = true) := by
  unfold p_law p_House___init__
  refine names_ok (by decide) fun ns hl hg => tk (by decide) fun n l u => ?_
  have hl2 : ns.length = 10 := hl
  refine forD_inv (fun _ s => s.1 = s.2 ∧ GF s.1) (n := 0) ⟨rfl, GF.nil⟩ (fun i x s kk hx hi hk => ?_) ?_
  · obtain ⟨a, b⟩ := s
    obtain ⟨e, gf⟩ := hi
    dsimp only at e gf ⊢
    subst e
    have gx : GN x := by
      rw [cut_hi l] at hx
      exact hg x (List.mem_of_mem_take (List.mem_of_getElem? hx))
    refine content_ok fun c gc => ?_
    have hd : (Dd.write x c).ok := ⟨gx, gc⟩
    show p_l_step a a (Dd.write x c).dat _
    refine step_ok gf hd ?_
    rw [if_neg (by decide)]
    exact hk _ ⟨rfl, st_good gf hd⟩
  · rintro ⟨a, b⟩ ⟨e, gf⟩
    dsimp only at e gf ⊢
    subst e
    refine ⟨by decide, forD_inv (fun _ s => s.1 = s.2 ∧ GF s.1) (n := 0) ⟨rfl, gf⟩ (fun i x s kk hx hi hk => ?_) ?_⟩
    · obtain ⟨m, b⟩ := s
      obtain ⟨e, gm⟩ := hi
      dsimp only at e gm ⊢
      subst e
      refine any_ok (fun w hw => any_ok (fun y hy => ?_) (by omega) (by omega)) (by decide) (by decide)
      have gy := hg y hy
      unfold jn
      dsimp only
      have fin : ∀ m', GF m' → kk (m', m') := fun m' g' => hk _ ⟨rfl, g'⟩
      simp only [List.mem_cons, List.not_mem_nil, or_false] at hw
      have hw2 : w = "write" ∨ w = "drop" ∨ w = "move" ∨ w = "content" := by
        rcases hw with h | h | h | h | h
        · exact .inl h
        · exact .inr (.inl h)
        · exact .inr (.inr (.inl h))
        · exact .inr (.inr (.inl h))
        · exact .inr (.inr (.inr h))
      rcases hw2 with rfl | rfl | rfl | rfl
      · rw [if_pos (by decide)]
        refine content_ok fun c gc => ⟨[.str "write", .str y], rfl, by simp, ?_⟩
        rw [if_neg (by decide)]
        exact turn_ok (d := .write y c) gm ⟨gy, gc⟩ fin
      · rw [if_neg (by decide), if_neg (by decide)]
        exact turn_ok (d := .drop y) gm gy fin
      · rw [if_neg (by decide), if_pos (by decide)]
        refine any_ok (fun z hz => ⟨[.str "move", .str y], rfl, by simp, ?_⟩) (by omega) (by omega)
        exact turn_ok (d := .move y z) gm ⟨gy, hg z hz⟩ fin
      · rw [if_neg (by decide), if_neg (by decide)]
        exact turn_ok (d := .content y) gm gy fin
    · rintro ⟨m, b⟩ ⟨e, gm⟩
      dsimp only at e gm ⊢
      subst e
      exact same_ok gm rfl
abbrev t_law_6 (K : PySem.W.Frag) : TS := (tIfS (tNot (tB (tCall (sp_l_step K) [] E0 (tCons (tVar 3) (tCons (tVar 4) (tCons (tTup (tCons (tC (.str "write")) (tCons (tVar 5) (tCons (tCall (sp_l_content K) [] E0 (tCons (tVar 1) tNil)) tNil)))) tNil)))))) (tRet (tC (.bl false))) tNext)
abbrev t_law_22 (K : PySem.W.Frag) : TS := (tIfS (tAnd (tNot (tB (tVar 9))) (tAnd (tTest (tOp uGt (tCall (sp_l_take K) [] E0 (tCons (tVar 1) (tCons (tC (.int 3)) tNil))) (tC (.int 0)))) (tNot (tB (tCall (sp_l_step K) [] E0 (tCons (tVar 3) (tCons (tVar 4) (tCons (tVar 8) tNil)))))))) (tRet (tC (.bl false))) tNext)
abbrev t_law_20 (K : PySem.W.Frag) : TS := (tSeq (tIfS (tAnd (tB (tVar 9)) (tNot (tB (tCall (sp_l_step K) [] E0 (tCons (tVar 3) (tCons (tVar 4) (tCons (tVar 8) tNil))))))) (tRet (tC (.bl false))) tNext)
  (t_law_22 K))
abbrev t_law_18 (K : PySem.W.Frag) : TS := (tSeq (tIfS (tAnd (tB (tVar 9)) (tNot (tB (tCall (sp_l_same K) [] E0 (tCons (tVar 3) (tCons (tVar 4) tNil)))))) (tRet (tC (.bl false))) tNext)
  (t_law_20 K))
abbrev t_law_16 (K : PySem.W.Frag) : TS := (tSeq (tIfS (tAnd (tB (tVar 9)) (tNot (tB (tCall (sp_l_kinds K) [] E0 (tCons (tVar 3) (tCons (tVar 8) tNil)))))) (tRet (tC (.bl false))) tNext)
  (t_law_18 K))
abbrev t_law_15 (K : PySem.W.Frag) : TS := (tSeq (tAsg (tOp rNotN (tCall (sp_l_due K) [] E0 (tCons (tVar 4) (tCons (tVar 8) tNil))) (tC .non)) (gName 9))
  (t_law_16 K))
abbrev t_law_13 (K : PySem.W.Frag) : TS := (tSeq (tIfS (tTest (tOp (uEq K) (tVar 7) (tC (.str "move")))) (tAsg (tOp (rCatA K) (tVar 8) (tTup (tCons (tCall (sp_l_any K) [] E0 (tCons (tVar 1) (tCons (tVar 2) tNil))) tNil))) (gName 8)) tNext)
  (t_law_15 K))
abbrev t_law_11 (K : PySem.W.Frag) : TS := (tSeq (tIfS (tTest (tOp (uEq K) (tVar 7) (tC (.str "write")))) (tAsg (tOp (rCatA K) (tVar 8) (tTup (tCons (tCall (sp_l_content K) [] E0 (tCons (tVar 1) tNil)) tNil))) (gName 8)) tNext)
  (t_law_13 K))
abbrev t_law_10 (K : PySem.W.Frag) : TS := (tSeq (tAsg (tTup (tCons (tVar 7) (tCons (tCall (sp_l_any K) [] E0 (tCons (tVar 1) (tCons (tVar 2) tNil))) tNil))) (gName 8))
  (t_law_11 K))
abbrev t_law_9 (K : PySem.W.Frag) : TS := (tSeq (tAsg (tCall (sp_l_any K) [] E0 (tCons (tVar 1) (tCons (tLst (tCons (tC (.str "write")) (tCons (tC (.str "drop")) (tCons (tC (.str "move")) (tCons (tC (.str "move")) (tCons (tC (.str "content")) tNil)))))) tNil))) (gName 7))
  (t_law_10 K))
abbrev t_law_8 (K : PySem.W.Frag) : TS := (tSeq (tFor (iRng1 (tCons (tC (.int 24)) tNil)) (gName 6) (t_law_9 K))
  (tRet (tCall (sp_l_same K) [] E0 (tCons (tVar 3) (tCons (tVar 4) tNil)))))
abbrev t_law_5 (K : PySem.W.Frag) : TS := (tSeq (tFor (iList K (tSl (uSl K) (tVar 2) tNoPart (tPart (tCall (sp_l_take K) [] E0 (tCons (tVar 1) (tCons (tC (.int 9)) tNil)))))) (gName 5) (t_law_6 K))
  (t_law_8 K))
abbrev t_law_4 (K : PySem.W.Frag) : TS := (tSeq (tAsg tDNewK (gName 4))
  (t_law_5 K))
abbrev t_law_3 (K : PySem.W.Frag) : TS := (tSeq (tAsg (tMakeW W0 (He.ga K "House") (sp_House___init__ K) [] tNil) (gName 3))
  (t_law_4 K))
abbrev t_law_2 (K : PySem.W.Frag) : TS := (tSeq (tAsg (tCall (sp_l_names K) [] E0 (tCons (tVar 1) (tCons (tC (.int 10)) tNil))) (gName 2))
  (t_law_3 K))
abbrev t_law_1 (K : PySem.W.Frag) : TS := (tSeq (tAsg (tCall (sp_l_bag K) [] E0 (tCons (tVar 0) tNil)) (gName 1))
  (t_law_2 K))
abbrev t_law (K : PySem.W.Frag) : TS := (t_law_1 K)
theorem pure_law {K : PySem.W.Frag} (T : TxC K) (vs : List V) (H : Hp) (Q : VK) (E : XK) (h : sp_law K vs H Q E) : t_law K { nx := fun _ H' => Q .non H', rt := Q } (L2.start ["_law_script", "_law_bag_here", "_law_names_here", "_law_house", "_law_files", "_law_name", "_law_k", "_law_word", "_law_deed", "_law_refused_here"] vs) H := by
  obtain ⟨sc, sn, rfl, hS, hl, k⟩ := h
  have hf := law_plain
  show t_law K _ [some (V.ref sc), none, none, none, none, none, none, none, none, none] H
  refine g_seq (g_asg (g_call (g_cons (g_var rfl (g_nil (u_bag (M.start hS) (fun H S => S.gotR 0 rfl) hl fun bag H1 S1 => ?_))))))
  generalize [rdL K sc (sn.map V.int)] = Rs at S1
  refine g_nx (g_seq (g_asg (g_call (g_cons (g_var rfl (g_cons (g_c (g_nil (⟨_, _, _, _, rfl, (M.at S1 0 rfl), hf, fun x1 u4 H3 hf (S2 : M (da K u4 ((eL eS) x1) :: bagR bag :: Rs) H3) => ?_⟩)))))))))
  refine g_nx (g_seq (g_asg (g_make (g_nil (v_make S2 fun a6 dx7 H9 (S8 : M (pt a6 (.ins (He.ga K "House") dx7 []) :: pt dx7 (.own a6) :: da K u4 ((eL eS) x1) :: bagR bag :: Rs) H9) => ?_)))))
  refine ⟨_, _, _, _, rfl, S8, hf, fun x12 H14 hf (S13 : M (R_House K a6 x12 :: da K u4 ((eL eS) x1) :: bagR bag :: Rs) H14) => ⟨rfl, ?_⟩⟩
  refine g_nx (g_seq (g_asg (v_dnewo S13 fun p16 H18 (S17 : M (adR K iS (eL eI) p16 ([] : (List (Str × (List Int)))) :: R_House K a6 x12 :: da K u4 ((eL eS) x1) :: bagR bag :: Rs) H18) => ?_)))
  refine g_nx (g_seq (g_for (g_iList (g_sl (g_var rfl (g_noPart (g_part (g_call (g_cons (g_var rfl (g_cons (g_c (g_nil ?_)))))))))))))
  obtain ⟨h20, hf⟩ := hf
  refine u_take (S17.at 3 rfl) h20 fun n21 H23 n21l n21u (S22 : M (bagR bag :: adR K iS (eL eI) p16 ([] : (List (Str × (List Int)))) :: R_House K a6 x12 :: da K u4 ((eL eS) x1) :: Rs) H23) => ?_
  replace hf := hf n21 n21l n21u
  refine g_int (v_slN flS S22 (M.gotA S22 3 rfl) fun p24 H26 (S25 : M (acR K p24 ((cutL x1 none (some n21)).map eS) :: bagR bag :: adR K iS (eL eI) p16 ([] : (List (Str × (List Int)))) :: R_House K a6 x12 :: da K u4 ((eL eS) x1) :: Rs) H26) => ?_)
  refine for_N flS (K := K) (β := ((List (Str × (List Int)))) × (List (Str × (List Int)))) hf (fun (s28 : ((List (Str × (List Int)))) × (List (Str × (List Int)))) σ H' => ∃ (o34 : Option V), σ = [some (V.ref sc), some (V.ref bag), some u4, some (V.ref a6), some (V.ref p16), o34, none, none, none, none] ∧ M (R_House K a6 s28.1 :: adR K iS (eL eI) p16 s28.2 :: acR K p24 ((cutL x1 none (some n21)).map eS) :: bagR bag :: da K u4 ((eL eS) x1) :: Rs) H') ⟨_, rfl, (M.sub (.cons 3 rfl (.cons 2 rfl (.cons 0 rfl (.cons 0 rfl (.cons 0 rfl (.refl _)))))) S25)⟩ (fun _ _ _ h => by obtain ⟨_, _, S⟩ := h; exact S.gotO 2 rfl) ?_ ?_
  ·
    rintro x31 s28 _ H36 kk30 ⟨o34, rfl, S35⟩ hf
    refine g_name (g_if (g_not (g_B (g_call (g_cons (g_var rfl (g_cons (g_var rfl (g_cons (g_tup (g_cons (g_c (g_cons (g_var rfl (g_cons (g_call (g_cons (g_var rfl (g_nil (⟨_, _, _, rfl, (M.at S35 3 rfl), hf, fun x37 u40 H39 hf (S38 : M (da K u40 ((eL eI) x37) :: bagR bag :: R_House K a6 s28.1 :: adR K iS (eL eI) p16 s28.2 :: acR K p24 ((cutL x1 none (some n21)).map eS) :: da K u4 ((eL eS) x1) :: Rs) H39) => ?_⟩))))))))))))))))))))
    refine g_nil (v_tupq S38 (EnF.consA (EnF.all fun _ => .str _) (EnF.consA (EnF.all fun _ => .str _) (EnF.consA (EnF.at 0 rfl) EnF.nilA))) (len_ok rfl) fun p42 H44 (S43 : M (da K (V.ref p42) ((eT3 eS eS (eL eI)) (("write" : Str), x31, x37)) :: da K u40 ((eL eI) x37) :: bagR bag :: R_House K a6 s28.1 :: adR K iS (eL eI) p16 s28.2 :: acR K p24 ((cutL x1 none (some n21)).map eS) :: da K u4 ((eL eS) x1) :: Rs) H44) => ?_)
    refine g_nil (⟨_, _, _, _, _, _, _, _, rfl, (M.at (M.at (M.addA S43 (EnF.at 0 rfl)) 5 rfl) 5 rfl), hf, fun x47 m48 m49 H51 hf (S50 : M (R_House K a6 m48 :: adR K iS (eL eI) p16 m49 :: da K (V.ref p42) ((eT3 eS eS (eL eI)) (("write" : Str), x31, x37)) :: da K u40 ((eL eI) x37) :: bagR bag :: acR K p24 ((cutL x1 none (some n21)).map eS) :: da K u4 ((eL eS) x1) :: Rs) H51) => ?_⟩)
    refine g_bl (v_iff hf (fun _ hf => ?_) (fun _ hf => ?_))
    ·
      refine g_ret (g_c ?_)
      rw [show false = true from hf]
      exact k _
    ·
      refine g_next ?_
      exact ⟨_, hf, _, rfl, (M.sub (.cons 0 rfl (.cons 0 rfl (.cons 3 rfl (.cons 2 rfl (.cons 2 rfl (.tl (.tl (.refl _)))))))) S50)⟩
  rintro s28 _ H54 hf ⟨o34, rfl, S53⟩
  obtain ⟨h55, hf⟩ := hf
  refine g_nx (g_seq (g_for (g_iRng1 (g_cons (g_c (g_nil (v_itR h55 ?_)))))))
  refine for_rng (β := ((List (Str × (List Int)))) × (List (Str × (List Int)))) hf (fun (s56 : ((List (Str × (List Int)))) × (List (Str × (List Int)))) σ H' => ∃ (o62 : Option V) (o63 : Option V) (o64 : Option V) (o65 : Option V), σ = [some (V.ref sc), some (V.ref bag), some u4, some (V.ref a6), some (V.ref p16), o34, o62, o63, o64, o65] ∧ M (R_House K a6 s56.1 :: adR K iS (eL eI) p16 s56.2 :: acR K p24 ((cutL x1 none (some n21)).map eS) :: bagR bag :: da K u4 ((eL eS) x1) :: Rs) H') ⟨_, _, _, _, rfl, (M.sub (.cons 0 rfl (.cons 0 rfl (.cons 0 rfl (.cons 0 rfl (.cons 0 rfl (.refl _)))))) S53)⟩ ?_ ?_
  ·
    rintro x59 s56 _ H67 kk58 ⟨o62, o63, o64, o65, rfl, S66⟩ hf
    refine g_name (g_seq (g_asg (g_call (g_cons (g_var rfl (g_cons (g_lst (g_cons (g_c (g_cons (g_c (g_cons (g_c (g_cons (g_c (g_cons (g_c (g_nil (v_lsto (ds := ([("write" : Str), ("drop" : Str), ("move" : Str), ("move" : Str), ("content" : Str)]).map eS) S66 (EnF.consA (EnF.all fun _ => .str _) (EnF.consA (EnF.all fun _ => .str _) (EnF.consA (EnF.all fun _ => .str _) (EnF.consA (EnF.all fun _ => .str _) (EnF.consA (EnF.all fun _ => .str _) EnF.nilA))))) (len_ok rfl) fun p68 H70 (S69 : M (acR K p68 (([("write" : Str), ("drop" : Str), ("move" : Str), ("move" : Str), ("content" : Str)]).map eS) :: R_House K a6 s56.1 :: adR K iS (eL eI) p16 s56.2 :: acR K p24 ((cutL x1 none (some n21)).map eS) :: bagR bag :: da K u4 ((eL eS) x1) :: Rs) H70) => ?_)))))))))))))))))))
    have S72 : M (da K (V.ref p68) ((eL eS) ([("write" : Str), ("drop" : Str), ("move" : Str), ("move" : Str), ("content" : Str)])) :: R_House K a6 s56.1 :: adR K iS (eL eI) p16 s56.2 :: acR K p24 ((cutL x1 none (some n21)).map eS) :: bagR bag :: da K u4 ((eL eS) x1) :: Rs) H70 := acR_fixL S69
    refine g_nil (⟨_, _, _, _, _, _, rfl, Brw.da, (M.at (M.addA S72 (EnF.at 0 rfl)) 5 rfl), hf, fun x75 H77 hf (S76 : M (bagR bag :: da K (V.ref p68) ((eL eS) ([("write" : Str), ("drop" : Str), ("move" : Str), ("move" : Str), ("content" : Str)])) :: da K (V.ref p68) ((eL eS) ([("write" : Str), ("drop" : Str), ("move" : Str), ("move" : Str), ("content" : Str)])) :: R_House K a6 s56.1 :: adR K iS (eL eI) p16 s56.2 :: acR K p24 ((cutL x1 none (some n21)).map eS) :: da K u4 ((eL eS) x1) :: Rs) H77) => ?_⟩)
    refine g_nx (g_seq (g_asg (g_tup (g_cons (g_var rfl (g_cons (g_call (g_cons (g_var rfl (g_cons (g_var rfl (g_nil (⟨_, _, _, _, _, _, rfl, Brw.da, (M.at (M.addA S76 (EnF.at 6 rfl)) 1 rfl), hf, fun x80 H82 hf (S81 : M (bagR bag :: da K u4 ((eL eS) x1) :: da K (V.ref p68) ((eL eS) ([("write" : Str), ("drop" : Str), ("move" : Str), ("move" : Str), ("content" : Str)])) :: da K (V.ref p68) ((eL eS) ([("write" : Str), ("drop" : Str), ("move" : Str), ("move" : Str), ("content" : Str)])) :: R_House K a6 s56.1 :: adR K iS (eL eI) p16 s56.2 :: acR K p24 ((cutL x1 none (some n21)).map eS) :: da K u4 ((eL eS) x1) :: Rs) H82) => ?_⟩)))))))))))))
    refine g_nil (v_tupq S81 (EnF.consA (EnF.all fun _ => .str _) (EnF.consA (EnF.all fun _ => .str _) EnF.nilA)) (len_ok rfl) fun p84 H86 (S85 : M (da K (V.ref p84) ((eP eS eS) (x75, x80)) :: bagR bag :: da K u4 ((eL eS) x1) :: da K (V.ref p68) ((eL eS) ([("write" : Str), ("drop" : Str), ("move" : Str), ("move" : Str), ("content" : Str)])) :: da K (V.ref p68) ((eL eS) ([("write" : Str), ("drop" : Str), ("move" : Str), ("move" : Str), ("content" : Str)])) :: R_House K a6 s56.1 :: adR K iS (eL eI) p16 s56.2 :: acR K p24 ((cutL x1 none (some n21)).map eS) :: da K u4 ((eL eS) x1) :: Rs) H86) => ?_)
    refine g_nx (jn_cut (β := PyData) hf (fun (s88 : PyData) σ H' => ∃ (u93 : V), σ = [some (V.ref sc), some (V.ref bag), some u4, some (V.ref a6), some (V.ref p16), o34, some (V.int x59), some (V.str x75), some u93, o65] ∧ M (da K u93 (eA s88) :: bagR bag :: da K u4 ((eL eS) x1) :: da K (V.ref p68) ((eL eS) ([("write" : Str), ("drop" : Str), ("move" : Str), ("move" : Str), ("content" : Str)])) :: da K (V.ref p68) ((eL eS) ([("write" : Str), ("drop" : Str), ("move" : Str), ("move" : Str), ("content" : Str)])) :: R_House K a6 s56.1 :: adR K iS (eL eI) p16 s56.2 :: acR K p24 ((cutL x1 none (some n21)).map eS) :: da K u4 ((eL eS) x1) :: Rs) H') (fun kk90 N91 hN92 hf => ?_) ?_)
    ·
      refine g_if (g_test (g_op (g_var rfl (g_c (v_eqS (g_bl (v_iff hf (fun _ hf => ?_) (fun _ hf => ?_))))))))
      ·
        refine g_asg (g_op (g_var rfl (g_tup (g_cons (g_call (g_cons (g_var rfl (g_nil (⟨_, _, _, rfl, (M.at S85 1 rfl), hf, fun x95 u98 H97 hf (S96 : M (da K u98 ((eL eI) x95) :: bagR bag :: da K (V.ref p84) ((eP eS eS) (x75, x80)) :: da K u4 ((eL eS) x1) :: da K (V.ref p68) ((eL eS) ([("write" : Str), ("drop" : Str), ("move" : Str), ("move" : Str), ("content" : Str)])) :: da K (V.ref p68) ((eL eS) ([("write" : Str), ("drop" : Str), ("move" : Str), ("move" : Str), ("content" : Str)])) :: R_House K a6 s56.1 :: adR K iS (eL eI) p16 s56.2 :: acR K p24 ((cutL x1 none (some n21)).map eS) :: da K u4 ((eL eS) x1) :: Rs) H97) => ?_⟩)))))))))
        refine g_nil (v_tupq S96 (EnF.consA (EnF.at 0 rfl) EnF.nilA) (len_ok rfl) fun p100 H102 (S101 : M (da K (V.ref p100) ((eV (eL eI)) [x95]) :: da K u98 ((eL eI) x95) :: bagR bag :: da K (V.ref p84) ((eP eS eS) (x75, x80)) :: da K u4 ((eL eS) x1) :: da K (V.ref p68) ((eL eS) ([("write" : Str), ("drop" : Str), ("move" : Str), ("move" : Str), ("content" : Str)])) :: da K (V.ref p68) ((eL eS) ([("write" : Str), ("drop" : Str), ("move" : Str), ("move" : Str), ("content" : Str)])) :: R_House K a6 s56.1 :: adR K iS (eL eI) p16 s56.2 :: acR K p24 ((cutL x1 none (some n21)).map eS) :: da K u4 ((eL eS) x1) :: Rs) H102) => ?_)
        obtain ⟨x104, h105, hf⟩ := hf
        have S106 := M.cstA S101 3 rfl h105
        have S108 : M (da K (V.ref p100) (eV eA (([x95]).map (eL eI))) :: da K (V.ref p84) ((eV eA) x104) :: da K (V.ref p100) ((eV (eL eI)) [x95]) :: da K u98 ((eL eI) x95) :: bagR bag :: da K (V.ref p84) ((eP eS eS) (x75, x80)) :: da K u4 ((eL eS) x1) :: da K (V.ref p68) ((eL eS) ([("write" : Str), ("drop" : Str), ("move" : Str), ("move" : Str), ("content" : Str)])) :: da K (V.ref p68) ((eL eS) ([("write" : Str), ("drop" : Str), ("move" : Str), ("move" : Str), ("content" : Str)])) :: R_House K a6 s56.1 :: adR K iS (eL eI) p16 s56.2 :: acR K p24 ((cutL x1 none (some n21)).map eS) :: da K u4 ((eL eS) x1) :: Rs) H102 := M.cstA S106 1 rfl (eV_any _ _)
        obtain ⟨h110, hf⟩ := hf
        refine v_catA S108 1 0 rfl rfl h110 fun u111 H113 (S112 : M (da K u111 (eV eA (cat x104 (([x95]).map (eL eI)))) :: da K (V.ref p100) (eV eA (([x95]).map (eL eI))) :: da K (V.ref p84) ((eV eA) x104) :: da K (V.ref p100) ((eV (eL eI)) [x95]) :: da K u98 ((eL eI) x95) :: bagR bag :: da K (V.ref p84) ((eP eS eS) (x75, x80)) :: da K u4 ((eL eS) x1) :: da K (V.ref p68) ((eL eS) ([("write" : Str), ("drop" : Str), ("move" : Str), ("move" : Str), ("content" : Str)])) :: da K (V.ref p68) ((eL eS) ([("write" : Str), ("drop" : Str), ("move" : Str), ("move" : Str), ("content" : Str)])) :: R_House K a6 s56.1 :: adR K iS (eL eI) p16 s56.2 :: acR K p24 ((cutL x1 none (some n21)).map eS) :: da K u4 ((eL eS) x1) :: Rs) H113) => ?_
        exact hN92 _ _ _ hf ⟨_, rfl, (M.sub (.cons 0 rfl (.cons 4 rfl (.cons 5 rfl (.cons 5 rfl (.cons 5 rfl (.cons 5 rfl (.cons 5 rfl (.cons 5 rfl (.cons 5 rfl (.tl (.tl (.tl (.tl (.tl (.refl _))))))))))))))) S112)⟩
      ·
        refine g_next ?_
        exact hN92 _ _ _ hf ⟨_, rfl, (M.sub (.cons 0 rfl (.cons 0 rfl (.cons 0 rfl (.cons 0 rfl (.cons 0 rfl (.cons 0 rfl (.cons 0 rfl (.cons 0 rfl (.cons 0 rfl (.refl _)))))))))) S85)⟩
    rintro s88 _ H116 hf ⟨u93, rfl, S115⟩
    refine jn_cut (β := PyData) hf (fun (s117 : PyData) σ H' => ∃ (u122 : V), σ = [some (V.ref sc), some (V.ref bag), some u4, some (V.ref a6), some (V.ref p16), o34, some (V.int x59), some (V.str x75), some u122, o65] ∧ M (da K u122 (eA s117) :: bagR bag :: da K u4 ((eL eS) x1) :: da K (V.ref p68) ((eL eS) ([("write" : Str), ("drop" : Str), ("move" : Str), ("move" : Str), ("content" : Str)])) :: da K (V.ref p68) ((eL eS) ([("write" : Str), ("drop" : Str), ("move" : Str), ("move" : Str), ("content" : Str)])) :: R_House K a6 s56.1 :: adR K iS (eL eI) p16 s56.2 :: acR K p24 ((cutL x1 none (some n21)).map eS) :: da K u4 ((eL eS) x1) :: Rs) H') (fun kk119 N120 hN121 hf => ?_) ?_
    ·
      refine g_if (g_test (g_op (g_var rfl (g_c (v_eqS (g_bl (v_iff hf (fun _ hf => ?_) (fun _ hf => ?_))))))))
      ·
        refine g_asg (g_op (g_var rfl (g_tup (g_cons (g_call (g_cons (g_var rfl (g_cons (g_var rfl (g_nil (⟨_, _, _, _, _, _, rfl, Brw.da, (M.at (M.addA S115 (EnF.at 8 rfl)) 2 rfl), hf, fun x125 H127 hf (S126 : M (bagR bag :: da K u4 ((eL eS) x1) :: da K u93 (eA s88) :: da K u4 ((eL eS) x1) :: da K (V.ref p68) ((eL eS) ([("write" : Str), ("drop" : Str), ("move" : Str), ("move" : Str), ("content" : Str)])) :: da K (V.ref p68) ((eL eS) ([("write" : Str), ("drop" : Str), ("move" : Str), ("move" : Str), ("content" : Str)])) :: R_House K a6 s56.1 :: adR K iS (eL eI) p16 s56.2 :: acR K p24 ((cutL x1 none (some n21)).map eS) :: da K u4 ((eL eS) x1) :: Rs) H127) => ?_⟩)))))))))))
        refine g_nil (v_tupq S126 (EnF.consA (EnF.all fun _ => .str _) EnF.nilA) (len_ok rfl) fun p129 H131 (S130 : M (da K (V.ref p129) ((eV eS) [x125]) :: bagR bag :: da K u4 ((eL eS) x1) :: da K u93 (eA s88) :: da K u4 ((eL eS) x1) :: da K (V.ref p68) ((eL eS) ([("write" : Str), ("drop" : Str), ("move" : Str), ("move" : Str), ("content" : Str)])) :: da K (V.ref p68) ((eL eS) ([("write" : Str), ("drop" : Str), ("move" : Str), ("move" : Str), ("content" : Str)])) :: R_House K a6 s56.1 :: adR K iS (eL eI) p16 s56.2 :: acR K p24 ((cutL x1 none (some n21)).map eS) :: da K u4 ((eL eS) x1) :: Rs) H131) => ?_)
        obtain ⟨x133, h134, hf⟩ := hf
        have S135 := M.cstA S130 3 rfl h134
        have S137 : M (da K (V.ref p129) (eV eA (([x125]).map eS)) :: da K u93 ((eV eA) x133) :: da K (V.ref p129) ((eV eS) [x125]) :: bagR bag :: da K u4 ((eL eS) x1) :: da K u93 (eA s88) :: da K u4 ((eL eS) x1) :: da K (V.ref p68) ((eL eS) ([("write" : Str), ("drop" : Str), ("move" : Str), ("move" : Str), ("content" : Str)])) :: da K (V.ref p68) ((eL eS) ([("write" : Str), ("drop" : Str), ("move" : Str), ("move" : Str), ("content" : Str)])) :: R_House K a6 s56.1 :: adR K iS (eL eI) p16 s56.2 :: acR K p24 ((cutL x1 none (some n21)).map eS) :: da K u4 ((eL eS) x1) :: Rs) H131 := M.cstA S135 1 rfl (eV_any _ _)
        obtain ⟨h139, hf⟩ := hf
        refine v_catA S137 1 0 rfl rfl h139 fun u140 H142 (S141 : M (da K u140 (eV eA (cat x133 (([x125]).map eS))) :: da K (V.ref p129) (eV eA (([x125]).map eS)) :: da K u93 ((eV eA) x133) :: da K (V.ref p129) ((eV eS) [x125]) :: bagR bag :: da K u4 ((eL eS) x1) :: da K u93 (eA s88) :: da K u4 ((eL eS) x1) :: da K (V.ref p68) ((eL eS) ([("write" : Str), ("drop" : Str), ("move" : Str), ("move" : Str), ("content" : Str)])) :: da K (V.ref p68) ((eL eS) ([("write" : Str), ("drop" : Str), ("move" : Str), ("move" : Str), ("content" : Str)])) :: R_House K a6 s56.1 :: adR K iS (eL eI) p16 s56.2 :: acR K p24 ((cutL x1 none (some n21)).map eS) :: da K u4 ((eL eS) x1) :: Rs) H142) => ?_
        exact hN121 _ _ _ hf ⟨_, rfl, (M.sub (.cons 0 rfl (.cons 3 rfl (.cons 5 rfl (.cons 5 rfl (.cons 5 rfl (.cons 5 rfl (.cons 5 rfl (.cons 5 rfl (.cons 5 rfl (.tl (.tl (.tl (.tl (.tl (.refl _))))))))))))))) S141)⟩
      ·
        refine g_next ?_
        exact hN121 _ _ _ hf ⟨_, rfl, (M.sub (.cons 0 rfl (.cons 0 rfl (.cons 0 rfl (.cons 0 rfl (.cons 0 rfl (.cons 0 rfl (.cons 0 rfl (.cons 0 rfl (.cons 0 rfl (.refl _)))))))))) S115)⟩
    rintro s117 _ H145 hf ⟨u122, rfl, S144⟩
    refine g_seq (g_asg (g_op (g_call (g_cons (g_var rfl (g_cons (g_var rfl (g_nil (⟨_, _, _, _, _, _, rfl, (M.at (M.addA S144 (EnF.at 0 rfl)) 7 rfl), hf, fun x147 u150 H149 hf (S148 : M (da K u150 (eA x147) :: adR K iS (eL eI) p16 s56.2 :: da K u122 (eA s117) :: bagR bag :: da K u4 ((eL eS) x1) :: da K (V.ref p68) ((eL eS) ([("write" : Str), ("drop" : Str), ("move" : Str), ("move" : Str), ("content" : Str)])) :: da K (V.ref p68) ((eL eS) ([("write" : Str), ("drop" : Str), ("move" : Str), ("move" : Str), ("content" : Str)])) :: R_House K a6 s56.1 :: acR K p24 ((cutL x1 none (some n21)).map eS) :: da K u4 ((eL eS) x1) :: Rs) H149) => ?_⟩)))))))))
    refine g_c (v_notNa (M.gotA S148 0 rfl) (g_nx (g_seq (g_if ?_))))
    refine tt_cutM (β := ((List (Str × (List Int))))) hf (fun (s157 : ((List (Str × (List Int))))) H => M (R_House K a6 s157 :: da K u150 (eA x147) :: adR K iS (eL eI) p16 s56.2 :: da K u122 (eA s117) :: bagR bag :: da K u4 ((eL eS) x1) :: da K (V.ref p68) ((eL eS) ([("write" : Str), ("drop" : Str), ("move" : Str), ("move" : Str), ("content" : Str)])) :: da K (V.ref p68) ((eL eS) ([("write" : Str), ("drop" : Str), ("move" : Str), ("move" : Str), ("content" : Str)])) :: acR K p24 ((cutL x1 none (some n21)).map eS) :: da K u4 ((eL eS) x1) :: Rs) H) (fun kk153 P154 hP155 hf => ?_) ?_
    ·
      refine g_and (g_B (g_var rfl (g_bl (v_iff hf (fun _ hf => ?_) (fun _ hf => ?_)))))
      ·
        refine g_not (g_B (g_call (g_cons (g_var rfl (g_cons (g_var rfl (g_nil (⟨_, _, _, _, _, _, rfl, (M.at (M.addA S148 (EnF.at 2 rfl)) 8 rfl), hf, fun x160 m161 H163 hf (S162 : M (R_House K a6 m161 :: da K u150 (eA x147) :: adR K iS (eL eI) p16 s56.2 :: da K u122 (eA s117) :: bagR bag :: da K u4 ((eL eS) x1) :: da K (V.ref p68) ((eL eS) ([("write" : Str), ("drop" : Str), ("move" : Str), ("move" : Str), ("content" : Str)])) :: da K (V.ref p68) ((eL eS) ([("write" : Str), ("drop" : Str), ("move" : Str), ("move" : Str), ("content" : Str)])) :: acR K p24 ((cutL x1 none (some n21)).map eS) :: da K u4 ((eL eS) x1) :: Rs) H163) => ?_⟩))))))))
        refine g_bl ?_
        exact hP155 _ _ _ hf (M.sub (.cons 0 rfl (.cons 0 rfl (.cons 0 rfl (.cons 0 rfl (.cons 0 rfl (.cons 0 rfl (.cons 0 rfl (.cons 0 rfl (.cons 0 rfl (.cons 0 rfl (.refl _))))))))))) S162)
      ·
        exact hP155 _ _ _ hf (M.sub (.cons 7 rfl (.cons 0 rfl (.cons 0 rfl (.cons 0 rfl (.cons 0 rfl (.cons 0 rfl (.cons 0 rfl (.cons 0 rfl (.cons 0 rfl (.cons 0 rfl (.refl _))))))))))) S148)
    intro c152 s157 H166 hf S165
    refine v_iff hf (fun _ hf => ?_) (fun _ hf => ?_)
    ·
      refine g_ret (g_c ?_)
      rw [show false = true from hf]
      exact k _
    ·
      refine g_next (g_nx (g_seq (g_if ?_)))
      refine tt_cut hf (fun H => M (R_House K a6 s157 :: da K u150 (eA x147) :: adR K iS (eL eI) p16 s56.2 :: da K u122 (eA s117) :: bagR bag :: da K u4 ((eL eS) x1) :: da K (V.ref p68) ((eL eS) ([("write" : Str), ("drop" : Str), ("move" : Str), ("move" : Str), ("content" : Str)])) :: da K (V.ref p68) ((eL eS) ([("write" : Str), ("drop" : Str), ("move" : Str), ("move" : Str), ("content" : Str)])) :: acR K p24 ((cutL x1 none (some n21)).map eS) :: da K u4 ((eL eS) x1) :: Rs) H) (fun kk168 P169 hP170 hf => ?_) ?_
      ·
        refine g_and (g_B (g_var rfl (g_bl (v_iff hf (fun _ hf => ?_) (fun _ hf => ?_)))))
        ·
          refine g_not (g_B (g_call (g_cons (g_var rfl (g_cons (g_var rfl (g_nil (⟨_, _, _, _, _, _, rfl, (M.at (M.at S165 2 rfl) 1 rfl), hf, fun x173 H175 hf (S174 : M (R_House K a6 s157 :: adR K iS (eL eI) p16 s56.2 :: da K u150 (eA x147) :: da K u122 (eA s117) :: bagR bag :: da K u4 ((eL eS) x1) :: da K (V.ref p68) ((eL eS) ([("write" : Str), ("drop" : Str), ("move" : Str), ("move" : Str), ("content" : Str)])) :: da K (V.ref p68) ((eL eS) ([("write" : Str), ("drop" : Str), ("move" : Str), ("move" : Str), ("content" : Str)])) :: acR K p24 ((cutL x1 none (some n21)).map eS) :: da K u4 ((eL eS) x1) :: Rs) H175) => ?_⟩))))))))
          refine g_bl ?_
          exact hP170 _ _ hf (M.sub (.cons 0 rfl (.cons 1 rfl (.cons 0 rfl (.cons 0 rfl (.cons 0 rfl (.cons 0 rfl (.cons 0 rfl (.cons 0 rfl (.cons 0 rfl (.cons 0 rfl (.refl _))))))))))) S174)
        ·
          exact hP170 _ _ hf (M.sub (.cons 0 rfl (.cons 0 rfl (.cons 0 rfl (.cons 0 rfl (.cons 0 rfl (.cons 0 rfl (.cons 0 rfl (.cons 0 rfl (.cons 0 rfl (.cons 0 rfl (.refl _))))))))))) S165)
      intro c167 H178 hf S177
      refine v_iff hf (fun _ hf => ?_) (fun _ hf => ?_)
      ·
        refine g_ret (g_c ?_)
        rw [show false = true from hf]
        exact k _
      ·
        refine g_next (g_nx (g_seq (g_if ?_)))
        refine tt_cutM (β := ((List (Str × (List Int)))) × (List (Str × (List Int)))) hf (fun (s184 : ((List (Str × (List Int)))) × (List (Str × (List Int)))) H => M (R_House K a6 s184.1 :: adR K iS (eL eI) p16 s184.2 :: da K u150 (eA x147) :: da K u122 (eA s117) :: bagR bag :: da K u4 ((eL eS) x1) :: da K (V.ref p68) ((eL eS) ([("write" : Str), ("drop" : Str), ("move" : Str), ("move" : Str), ("content" : Str)])) :: da K (V.ref p68) ((eL eS) ([("write" : Str), ("drop" : Str), ("move" : Str), ("move" : Str), ("content" : Str)])) :: acR K p24 ((cutL x1 none (some n21)).map eS) :: da K u4 ((eL eS) x1) :: Rs) H) (fun kk180 P181 hP182 hf => ?_) ?_
        ·
          refine g_and (g_B (g_var rfl (g_bl (v_iff hf (fun _ hf => ?_) (fun _ hf => ?_)))))
          ·
            refine g_not (g_B (g_call (g_cons (g_var rfl (g_cons (g_var rfl (g_cons (g_var rfl (g_nil (⟨_, _, _, _, _, _, _, _, rfl, (M.at (M.at (M.addA S177 (EnF.at 3 rfl)) 3 rfl) 2 rfl), hf, fun x188 m189 m190 H192 hf (S191 : M (R_House K a6 m189 :: adR K iS (eL eI) p16 m190 :: da K u150 (eA x147) :: da K u122 (eA s117) :: bagR bag :: da K u4 ((eL eS) x1) :: da K (V.ref p68) ((eL eS) ([("write" : Str), ("drop" : Str), ("move" : Str), ("move" : Str), ("content" : Str)])) :: da K (V.ref p68) ((eL eS) ([("write" : Str), ("drop" : Str), ("move" : Str), ("move" : Str), ("content" : Str)])) :: acR K p24 ((cutL x1 none (some n21)).map eS) :: da K u4 ((eL eS) x1) :: Rs) H192) => ?_⟩))))))))))
            refine g_bl ?_
            exact hP182 _ _ _ hf (M.sub (.cons 0 rfl (.cons 0 rfl (.cons 0 rfl (.cons 0 rfl (.cons 0 rfl (.cons 0 rfl (.cons 0 rfl (.cons 0 rfl (.cons 0 rfl (.cons 0 rfl (.refl _))))))))))) S191)
          ·
            exact hP182 _ _ _ hf (M.sub (.cons 0 rfl (.cons 1 rfl (.cons 0 rfl (.cons 0 rfl (.cons 0 rfl (.cons 0 rfl (.cons 0 rfl (.cons 0 rfl (.cons 0 rfl (.cons 0 rfl (.refl _))))))))))) S177)
        intro c179 s184 H195 hf S194
        refine v_iff hf (fun _ hf => ?_) (fun _ hf => ?_)
        ·
          refine g_ret (g_c ?_)
          rw [show false = true from hf]
          exact k _
        ·
          refine g_next (g_nx (g_if ?_))
          refine tt_cutM (β := ((List (Str × (List Int)))) × (List (Str × (List Int)))) hf (fun (s201 : ((List (Str × (List Int)))) × (List (Str × (List Int)))) H => M (R_House K a6 s201.1 :: adR K iS (eL eI) p16 s201.2 :: da K u150 (eA x147) :: da K u122 (eA s117) :: bagR bag :: da K u4 ((eL eS) x1) :: da K (V.ref p68) ((eL eS) ([("write" : Str), ("drop" : Str), ("move" : Str), ("move" : Str), ("content" : Str)])) :: da K (V.ref p68) ((eL eS) ([("write" : Str), ("drop" : Str), ("move" : Str), ("move" : Str), ("content" : Str)])) :: acR K p24 ((cutL x1 none (some n21)).map eS) :: da K u4 ((eL eS) x1) :: Rs) H) (fun kk197 P198 hP199 hf => ?_) ?_
          ·
            refine g_and (g_not (g_B (g_var rfl (g_bl (v_iff hf (fun _ hf => ?_) (fun _ hf => ?_))))))
            ·
              refine tt_cutM (β := ((List (Str × (List Int)))) × (List (Str × (List Int)))) hf (fun (s209 : ((List (Str × (List Int)))) × (List (Str × (List Int)))) H => M (R_House K a6 s209.1 :: adR K iS (eL eI) p16 s209.2 :: da K u150 (eA x147) :: da K u122 (eA s117) :: bagR bag :: da K u4 ((eL eS) x1) :: da K (V.ref p68) ((eL eS) ([("write" : Str), ("drop" : Str), ("move" : Str), ("move" : Str), ("content" : Str)])) :: da K (V.ref p68) ((eL eS) ([("write" : Str), ("drop" : Str), ("move" : Str), ("move" : Str), ("content" : Str)])) :: acR K p24 ((cutL x1 none (some n21)).map eS) :: da K u4 ((eL eS) x1) :: Rs) H) (fun kk205 P206 hP207 hf => ?_) ?_
              ·
                refine g_and (g_test (g_op (g_call (g_cons (g_var rfl (g_cons (g_c (g_nil ?_))))))))
                obtain ⟨h212, hf⟩ := hf
                refine u_take (S194.at 4 rfl) h212 fun n213 H215 n213l n213u (S214 : M (bagR bag :: R_House K a6 s184.1 :: adR K iS (eL eI) p16 s184.2 :: da K u150 (eA x147) :: da K u122 (eA s117) :: da K u4 ((eL eS) x1) :: da K (V.ref p68) ((eL eS) ([("write" : Str), ("drop" : Str), ("move" : Str), ("move" : Str), ("content" : Str)])) :: da K (V.ref p68) ((eL eS) ([("write" : Str), ("drop" : Str), ("move" : Str), ("move" : Str), ("content" : Str)])) :: acR K p24 ((cutL x1 none (some n21)).map eS) :: da K u4 ((eL eS) x1) :: Rs) H215) => ?_
                replace hf := hf n213 n213l n213u
                refine g_c (v_gt (g_bl (v_iff hf (fun _ hf => ?_) (fun _ hf => ?_))))
                ·
                  refine g_not (g_B (g_call (g_cons (g_var rfl (g_cons (g_var rfl (g_cons (g_var rfl (g_nil (⟨_, _, _, _, _, _, _, _, rfl, (M.at (M.at (M.addA S214 (EnF.at 4 rfl)) 3 rfl) 3 rfl), hf, fun x217 m218 m219 H221 hf (S220 : M (R_House K a6 m218 :: adR K iS (eL eI) p16 m219 :: bagR bag :: da K u150 (eA x147) :: da K u122 (eA s117) :: da K u4 ((eL eS) x1) :: da K (V.ref p68) ((eL eS) ([("write" : Str), ("drop" : Str), ("move" : Str), ("move" : Str), ("content" : Str)])) :: da K (V.ref p68) ((eL eS) ([("write" : Str), ("drop" : Str), ("move" : Str), ("move" : Str), ("content" : Str)])) :: acR K p24 ((cutL x1 none (some n21)).map eS) :: da K u4 ((eL eS) x1) :: Rs) H221) => ?_⟩))))))))))
                  refine g_bl ?_
                  exact hP207 _ _ _ hf (M.sub (.cons 0 rfl (.cons 0 rfl (.cons 1 rfl (.cons 1 rfl (.cons 0 rfl (.cons 0 rfl (.cons 0 rfl (.cons 0 rfl (.cons 0 rfl (.cons 0 rfl (.refl _))))))))))) S220)
                ·
                  exact hP207 _ _ _ hf (M.sub (.cons 1 rfl (.cons 1 rfl (.cons 1 rfl (.cons 1 rfl (.cons 0 rfl (.cons 0 rfl (.cons 0 rfl (.cons 0 rfl (.cons 0 rfl (.cons 0 rfl (.refl _))))))))))) S214)
              intro c204 s209 H224 hf S223
              exact hP199 _ _ _ hf (M.sub (.cons 0 rfl (.cons 0 rfl (.cons 0 rfl (.cons 0 rfl (.cons 0 rfl (.cons 0 rfl (.cons 0 rfl (.cons 0 rfl (.cons 0 rfl (.cons 0 rfl (.refl _))))))))))) S223)
            ·
              exact hP199 _ _ _ hf (M.sub (.cons 0 rfl (.cons 0 rfl (.cons 0 rfl (.cons 0 rfl (.cons 0 rfl (.cons 0 rfl (.cons 0 rfl (.cons 0 rfl (.cons 0 rfl (.cons 0 rfl (.refl _))))))))))) S194)
          intro c196 s201 H226 hf S225
          refine v_iff hf (fun _ hf => ?_) (fun _ hf => ?_)
          ·
            refine g_ret (g_c ?_)
            rw [show false = true from hf]
            exact k _
          ·
            refine g_next ?_
            exact ⟨_, hf, _, _, _, _, rfl, (M.sub (.cons 0 rfl (.cons 0 rfl (.cons 6 rfl (.cons 2 rfl (.cons 5 rfl (.tl (.tl (.tl (.tl (.tl (.refl _))))))))))) S225)⟩
  rintro s56 _ H228 hf ⟨o62, o63, o64, o65, rfl, S227⟩
  refine g_nx (g_ret (g_call (g_cons (g_var rfl (g_cons (g_var rfl (g_nil (⟨_, _, _, _, _, _, rfl, (M.at (M.at S227 1 rfl) 1 rfl), hf, fun x229 H231 hf (S230 : M (R_House K a6 s56.1 :: adR K iS (eL eI) p16 s56.2 :: acR K p24 ((cutL x1 none (some n21)).map eS) :: bagR bag :: da K u4 ((eL eS) x1) :: Rs) H231) => ?_⟩))))))))
  rw [show x229 = true from hf]
  exact k _
def top (i : Nat) : Stmt := PySem.Challenge.pw_restorechain_k32_house_refused.main.body.getD i (.Pass ⟨0, 0, 0, 0⟩)
def meth (i j : Nat) : Stmt := (clsB (top i)).getD j (.Pass ⟨0, 0, 0, 0⟩)
abbrev s_l_bag : Stmt := top 24
abbrev s_l_take : Stmt := top 25
abbrev s_l_names : Stmt := top 28
abbrev s_House___init__ : Stmt := meth 22 0
abbrev s_l_due : Stmt := top 31
abbrev s_l_do : Stmt := top 32
abbrev s_l_alike : Stmt := top 26
abbrev s_wanted : Stmt := top 20
abbrev s_is_name : Stmt := top 17
abbrev s_is_whole : Stmt := top 13
abbrev s_is_sign : Stmt := top 14
abbrev s_are_signs : Stmt := top 15
abbrev s_is_content : Stmt := top 16
abbrev s_House_write : Stmt := meth 22 4
abbrev s_House_need_file : Stmt := meth 22 3
abbrev s_House_drop : Stmt := meth 22 5
abbrev s_House_move : Stmt := meth 22 6
abbrev s_House_content : Stmt := meth 22 9
abbrev s_l_call : Stmt := top 33
abbrev s_l_refused : Stmt := top 30
abbrev s_l_said : Stmt := top 34
abbrev s_l_step : Stmt := top 36
abbrev s_l_content : Stmt := top 29
abbrev s_l_any : Stmt := top 27
abbrev s_l_kinds : Stmt := top 37
abbrev s_House_names_of : Stmt := meth 22 8
abbrev s_House_contents : Stmt := meth 22 10
abbrev s_House___len__ : Stmt := meth 22 2
abbrev s_l_same : Stmt := top 35
abbrev s_law : Stmt := top 38
abbrev s_Wrong___init__ : Stmt := meth 4 0
abbrev s_TooMany___init__ : Stmt := meth 6 0
abbrev s_NoFile___init__ : Stmt := meth 7 0
abbrev s_There___init__ : Stmt := meth 5 0
structure Txt (K : PySem.W.Frag) (mg : Str → Option Value) : Prop where
  F_l_bag : FunD K "_law_bag" "_law_bag" (defArgs s_l_bag) (defBody s_l_bag) (defScope s_l_bag) [] [] (He.ga K "_law_bag") (fdOf K (He.ga K "_law_bag"))
  F_l_take : FunD K "_law_take" "_law_take" (defArgs s_l_take) (defBody s_l_take) (defScope s_l_take) [] [] (He.ga K "_law_take") (fdOf K (He.ga K "_law_take"))
  F_l_names : FunD K "_law_names" "_law_names" (defArgs s_l_names) (defBody s_l_names) (defScope s_l_names) [] [] (He.ga K "_law_names") (fdOf K (He.ga K "_law_names"))
  F_House___init__ : FunD K "__init__" "House.__init__" (defArgs s_House___init__) (defBody s_House___init__) (defScope s_House___init__) [] [] (mA K "House" "__init__") (fdOf K (mA K "House" "__init__"))
  F_l_due : FunD K "_law_due" "_law_due" (defArgs s_l_due) (defBody s_l_due) (defScope s_l_due) [] [] (He.ga K "_law_due") (fdOf K (He.ga K "_law_due"))
  F_l_do : FunD K "_law_do" "_law_do" (defArgs s_l_do) (defBody s_l_do) (defScope s_l_do) [] [] (He.ga K "_law_do") (fdOf K (He.ga K "_law_do"))
  F_l_alike : FunD K "_law_alike" "_law_alike" (defArgs s_l_alike) (defBody s_l_alike) (defScope s_l_alike) [] [] (He.ga K "_law_alike") (fdOf K (He.ga K "_law_alike"))
  F_wanted : FunD K "wanted" "wanted" (defArgs s_wanted) (defBody s_wanted) (defScope s_wanted) [] [] (He.ga K "wanted") (fdOf K (He.ga K "wanted"))
  F_is_name : FunD K "is_name" "is_name" (defArgs s_is_name) (defBody s_is_name) (defScope s_is_name) [] [] (He.ga K "is_name") (fdOf K (He.ga K "is_name"))
  F_is_whole : FunD K "is_whole" "is_whole" (defArgs s_is_whole) (defBody s_is_whole) (defScope s_is_whole) [] [] (He.ga K "is_whole") (fdOf K (He.ga K "is_whole"))
  F_is_sign : FunD K "is_sign" "is_sign" (defArgs s_is_sign) (defBody s_is_sign) (defScope s_is_sign) [] [] (He.ga K "is_sign") (fdOf K (He.ga K "is_sign"))
  F_are_signs : FunD K "are_signs" "are_signs" (defArgs s_are_signs) (defBody s_are_signs) (defScope s_are_signs) [] [] (He.ga K "are_signs") (fdOf K (He.ga K "are_signs"))
  F_is_content : FunD K "is_content" "is_content" (defArgs s_is_content) (defBody s_is_content) (defScope s_is_content) [] [] (He.ga K "is_content") (fdOf K (He.ga K "is_content"))
  F_House_write : FunD K "write" "House.write" (defArgs s_House_write) (defBody s_House_write) (defScope s_House_write) [] [] (mA K "House" "write") (fdOf K (mA K "House" "write"))
  F_House_need_file : FunD K "need_file" "House.need_file" (defArgs s_House_need_file) (defBody s_House_need_file) (defScope s_House_need_file) [] [] (mA K "House" "need_file") (fdOf K (mA K "House" "need_file"))
  F_House_drop : FunD K "drop" "House.drop" (defArgs s_House_drop) (defBody s_House_drop) (defScope s_House_drop) [] [] (mA K "House" "drop") (fdOf K (mA K "House" "drop"))
  F_House_move : FunD K "move" "House.move" (defArgs s_House_move) (defBody s_House_move) (defScope s_House_move) [] [] (mA K "House" "move") (fdOf K (mA K "House" "move"))
  F_House_content : FunD K "content" "House.content" (defArgs s_House_content) (defBody s_House_content) (defScope s_House_content) [] [] (mA K "House" "content") (fdOf K (mA K "House" "content"))
  F_l_call : FunD K "_law_call" "_law_call" (defArgs s_l_call) (defBody s_l_call) (defScope s_l_call) [] [] (He.ga K "_law_call") (fdOf K (He.ga K "_law_call"))
  F_l_refused : FunD K "_law_refused" "_law_refused" (defArgs s_l_refused) (defBody s_l_refused) (defScope s_l_refused) [] [] (He.ga K "_law_refused") (fdOf K (He.ga K "_law_refused"))
  F_l_said : FunD K "_law_said" "_law_said" (defArgs s_l_said) (defBody s_l_said) (defScope s_l_said) [] [] (He.ga K "_law_said") (fdOf K (He.ga K "_law_said"))
  F_l_step : FunD K "_law_step" "_law_step" (defArgs s_l_step) (defBody s_l_step) (defScope s_l_step) [] [] (He.ga K "_law_step") (fdOf K (He.ga K "_law_step"))
  F_l_content : FunD K "_law_content" "_law_content" (defArgs s_l_content) (defBody s_l_content) (defScope s_l_content) [] [] (He.ga K "_law_content") (fdOf K (He.ga K "_law_content"))
  F_l_any : FunD K "_law_any" "_law_any" (defArgs s_l_any) (defBody s_l_any) (defScope s_l_any) [] [] (He.ga K "_law_any") (fdOf K (He.ga K "_law_any"))
  F_l_kinds : FunD K "_law_kinds" "_law_kinds" (defArgs s_l_kinds) (defBody s_l_kinds) (defScope s_l_kinds) [] [] (He.ga K "_law_kinds") (fdOf K (He.ga K "_law_kinds"))
  F_House_names_of : FunD K "names_of" "House.names_of" (defArgs s_House_names_of) (defBody s_House_names_of) (defScope s_House_names_of) [] [] (mA K "House" "names_of") (fdOf K (mA K "House" "names_of"))
  F_House_contents : FunD K "contents" "House.contents" (defArgs s_House_contents) (defBody s_House_contents) (defScope s_House_contents) [] [] (mA K "House" "contents") (fdOf K (mA K "House" "contents"))
  F_House___len__ : FunD K "__len__" "House.__len__" (defArgs s_House___len__) (defBody s_House___len__) (defScope s_House___len__) [] [] (mA K "House" "__len__") (fdOf K (mA K "House" "__len__"))
  F_l_same : FunD K "_law_same" "_law_same" (defArgs s_l_same) (defBody s_l_same) (defScope s_l_same) [] [] (He.ga K "_law_same") (fdOf K (He.ga K "_law_same"))
  F_law : FunD K "law" "law" (defArgs s_law) (defBody s_law) (defScope s_law) [] [] (He.ga K "law") (fdOf K (He.ga K "law"))
  F_Wrong___init__ : FunD K "__init__" "Wrong.__init__" (defArgs s_Wrong___init__) (defBody s_Wrong___init__) (defScope s_Wrong___init__) [] [] (mA K "Wrong" "__init__") (fdOf K (mA K "Wrong" "__init__"))
  F_TooMany___init__ : FunD K "__init__" "TooMany.__init__" (defArgs s_TooMany___init__) (defBody s_TooMany___init__) (defScope s_TooMany___init__) [] [] (mA K "TooMany" "__init__") (fdOf K (mA K "TooMany" "__init__"))
  F_NoFile___init__ : FunD K "__init__" "NoFile.__init__" (defArgs s_NoFile___init__) (defBody s_NoFile___init__) (defScope s_NoFile___init__) [] [] (mA K "NoFile" "__init__") (fdOf K (mA K "NoFile" "__init__"))
  F_There___init__ : FunD K "__init__" "There.__init__" (defArgs s_There___init__) (defBody s_There___init__) (defScope s_There___init__) [] [] (mA K "There" "__init__") (fdOf K (mA K "There" "__init__"))
  c_LETTERS : ∃ t, mg "LETTERS" = some (.str "abcdefghijklmnopqrstuvwxyz" t)
  c_LONGEST : ∃ t, mg "LONGEST" = some (.int 8 t)
  c_MOST_SIGN : ∃ t, mg "MOST_SIGN" = some (.int 999 t)
  c_MOST_CONTENT : ∃ t, mg "MOST_CONTENT" = some (.int 48 t)
  c_MOST_KEPT : ∃ t, mg "MOST_KEPT" = some (.int 8 t)
  g_l_bag : mg "_law_bag" = some (.ref (He.ga K "_law_bag"))
  g_l_take : mg "_law_take" = some (.ref (He.ga K "_law_take"))
  g_l_names : mg "_law_names" = some (.ref (He.ga K "_law_names"))
  g_l_due : mg "_law_due" = some (.ref (He.ga K "_law_due"))
  g_l_do : mg "_law_do" = some (.ref (He.ga K "_law_do"))
  g_l_alike : mg "_law_alike" = some (.ref (He.ga K "_law_alike"))
  g_wanted : mg "wanted" = some (.ref (He.ga K "wanted"))
  g_is_name : mg "is_name" = some (.ref (He.ga K "is_name"))
  g_is_whole : mg "is_whole" = some (.ref (He.ga K "is_whole"))
  g_is_sign : mg "is_sign" = some (.ref (He.ga K "is_sign"))
  g_are_signs : mg "are_signs" = some (.ref (He.ga K "are_signs"))
  g_is_content : mg "is_content" = some (.ref (He.ga K "is_content"))
  g_l_call : mg "_law_call" = some (.ref (He.ga K "_law_call"))
  g_l_refused : mg "_law_refused" = some (.ref (He.ga K "_law_refused"))
  g_l_said : mg "_law_said" = some (.ref (He.ga K "_law_said"))
  g_l_step : mg "_law_step" = some (.ref (He.ga K "_law_step"))
  g_l_content : mg "_law_content" = some (.ref (He.ga K "_law_content"))
  g_l_any : mg "_law_any" = some (.ref (He.ga K "_law_any"))
  g_l_kinds : mg "_law_kinds" = some (.ref (He.ga K "_law_kinds"))
  g_l_same : mg "_law_same" = some (.ref (He.ga K "_law_same"))
  g_law : mg "law" = some (.ref (He.ga K "law"))
  cg_Wrong : mg "Wrong" = some (.ref (He.ga K "Wrong"))
  cg_TooMany : mg "TooMany" = some (.ref (He.ga K "TooMany"))
  cg_NoFile : mg "NoFile" = some (.ref (He.ga K "NoFile"))
  cg_There : mg "There" = some (.ref (He.ga K "There"))
  cg_StoreError : mg "StoreError" = some (.ref (He.ga K "StoreError"))
  cg_Missing : mg "Missing" = some (.ref (He.ga K "Missing"))
  cg_House : mg "House" = some (.ref (He.ga K "House"))
  cl_House : Cls K (He.ga K "House")
  mk_House : Mk K (He.ga K "House") (mA K "House" "__init__")
  na_House_signs_by : NoAttr K (He.ga K "House") "signs_by"
  me_House_write : Meth K (He.ga K "House") "write" (mA K "House" "write")
  me_House_need_file : Meth K (He.ga K "House") "need_file" (mA K "House" "need_file")
  me_House_drop : Meth K (He.ga K "House") "drop" (mA K "House" "drop")
  me_House_move : Meth K (He.ga K "House") "move" (mA K "House" "move")
  me_House_content : Meth K (He.ga K "House") "content" (mA K "House" "content")
  me_House_names_of : Meth K (He.ga K "House") "names_of" (mA K "House" "names_of")
  me_House_contents : Meth K (He.ga K "House") "contents" (mA K "House" "contents")
  me_House___len__ : Meth K (He.ga K "House") "__len__" (mA K "House" "__len__")
  xb_Wrong : XcB K (He.ga K "Wrong") "ValueError" "ValueError.__new__" "ValueError.__init__" (tlB "ValueError")
  xf_Wrong : PySem.W.findIn K (.ref (He.ga K "Wrong")) "__init__" = some (some (.ref (mA K "Wrong" "__init__"))) ∧ PySem.W.typeIn K (.ref (mA K "Wrong" "__init__")) = some (.type "function")
  xc_Wrong : ExcC K (He.ga K "Wrong")
  xn_Wrong_at : chN K "Wrong" "at" = true
  xi_StoreError : XcI K (He.ga K "StoreError") "ValueError.__init__"
  xm_Wrong_StoreError : PySem.W.exmOne K (.ref (He.ga K "Wrong")) (.ref (He.ga K "StoreError")) = some true
  xm_Wrong_Missing : PySem.W.exmOne K (.ref (He.ga K "Wrong")) (.ref (He.ga K "Missing")) = some false
  xm_Wrong_NoFile : PySem.W.exmOne K (.ref (He.ga K "Wrong")) (.ref (He.ga K "NoFile")) = some false
  xm_Wrong_There : PySem.W.exmOne K (.ref (He.ga K "Wrong")) (.ref (He.ga K "There")) = some false
  xm_Wrong_TooMany : PySem.W.exmOne K (.ref (He.ga K "Wrong")) (.ref (He.ga K "TooMany")) = some false
  xk_Wrong_NoFile : PySem.W.kitOne K (.ref (He.ga K "Wrong")) (.ref (He.ga K "NoFile")) = some false
  xk_Wrong_There : PySem.W.kitOne K (.ref (He.ga K "Wrong")) (.ref (He.ga K "There")) = some false
  xk_Wrong_TooMany : PySem.W.kitOne K (.ref (He.ga K "Wrong")) (.ref (He.ga K "TooMany")) = some false
  xk_Wrong_LookupError : PySem.W.kitOne K (.ref (He.ga K "Wrong")) (.type "LookupError") = some false
  xk_Wrong_ValueError : PySem.W.kitOne K (.ref (He.ga K "Wrong")) (.type "ValueError") = some true
  xk_Wrong_Wrong : PySem.W.kitOne K (.ref (He.ga K "Wrong")) (.ref (He.ga K "Wrong")) = some true
  xb_TooMany : XcB K (He.ga K "TooMany") "ValueError" "ValueError.__new__" "ValueError.__init__" (tlB "ValueError")
  xf_TooMany : PySem.W.findIn K (.ref (He.ga K "TooMany")) "__init__" = some (some (.ref (mA K "TooMany" "__init__"))) ∧ PySem.W.typeIn K (.ref (mA K "TooMany" "__init__")) = some (.type "function")
  xc_TooMany : ExcC K (He.ga K "TooMany")
  xn_TooMany_most : chN K "TooMany" "most" = true
  xm_TooMany_StoreError : PySem.W.exmOne K (.ref (He.ga K "TooMany")) (.ref (He.ga K "StoreError")) = some true
  xm_TooMany_Missing : PySem.W.exmOne K (.ref (He.ga K "TooMany")) (.ref (He.ga K "Missing")) = some false
  xm_TooMany_NoFile : PySem.W.exmOne K (.ref (He.ga K "TooMany")) (.ref (He.ga K "NoFile")) = some false
  xm_TooMany_There : PySem.W.exmOne K (.ref (He.ga K "TooMany")) (.ref (He.ga K "There")) = some false
  xm_TooMany_TooMany : PySem.W.exmOne K (.ref (He.ga K "TooMany")) (.ref (He.ga K "TooMany")) = some true
  xk_TooMany_NoFile : PySem.W.kitOne K (.ref (He.ga K "TooMany")) (.ref (He.ga K "NoFile")) = some false
  xk_TooMany_There : PySem.W.kitOne K (.ref (He.ga K "TooMany")) (.ref (He.ga K "There")) = some false
  xk_TooMany_TooMany : PySem.W.kitOne K (.ref (He.ga K "TooMany")) (.ref (He.ga K "TooMany")) = some true
  xk_TooMany_LookupError : PySem.W.kitOne K (.ref (He.ga K "TooMany")) (.type "LookupError") = some false
  xk_TooMany_ValueError : PySem.W.kitOne K (.ref (He.ga K "TooMany")) (.type "ValueError") = some true
  xk_TooMany_Wrong : PySem.W.kitOne K (.ref (He.ga K "TooMany")) (.ref (He.ga K "Wrong")) = some false
  xb_NoFile : XcB K (He.ga K "NoFile") "LookupError" "LookupError.__new__" "LookupError.__init__" (tlB "LookupError")
  xf_NoFile : PySem.W.findIn K (.ref (He.ga K "NoFile")) "__init__" = some (some (.ref (mA K "NoFile" "__init__"))) ∧ PySem.W.typeIn K (.ref (mA K "NoFile" "__init__")) = some (.type "function")
  xc_NoFile : ExcC K (He.ga K "NoFile")
  xn_NoFile_name : chN K "NoFile" "name" = true
  xi_Missing : XcI K (He.ga K "Missing") "LookupError.__init__"
  xm_NoFile_StoreError : PySem.W.exmOne K (.ref (He.ga K "NoFile")) (.ref (He.ga K "StoreError")) = some false
  xm_NoFile_Missing : PySem.W.exmOne K (.ref (He.ga K "NoFile")) (.ref (He.ga K "Missing")) = some true
  xm_NoFile_NoFile : PySem.W.exmOne K (.ref (He.ga K "NoFile")) (.ref (He.ga K "NoFile")) = some true
  xm_NoFile_There : PySem.W.exmOne K (.ref (He.ga K "NoFile")) (.ref (He.ga K "There")) = some false
  xm_NoFile_TooMany : PySem.W.exmOne K (.ref (He.ga K "NoFile")) (.ref (He.ga K "TooMany")) = some false
  xk_NoFile_NoFile : PySem.W.kitOne K (.ref (He.ga K "NoFile")) (.ref (He.ga K "NoFile")) = some true
  xk_NoFile_There : PySem.W.kitOne K (.ref (He.ga K "NoFile")) (.ref (He.ga K "There")) = some false
  xk_NoFile_TooMany : PySem.W.kitOne K (.ref (He.ga K "NoFile")) (.ref (He.ga K "TooMany")) = some false
  xk_NoFile_LookupError : PySem.W.kitOne K (.ref (He.ga K "NoFile")) (.type "LookupError") = some true
  xk_NoFile_ValueError : PySem.W.kitOne K (.ref (He.ga K "NoFile")) (.type "ValueError") = some false
  xk_NoFile_Wrong : PySem.W.kitOne K (.ref (He.ga K "NoFile")) (.ref (He.ga K "Wrong")) = some false
  xb_There : XcB K (He.ga K "There") "ValueError" "ValueError.__new__" "ValueError.__init__" (tlB "ValueError")
  xf_There : PySem.W.findIn K (.ref (He.ga K "There")) "__init__" = some (some (.ref (mA K "There" "__init__"))) ∧ PySem.W.typeIn K (.ref (mA K "There" "__init__")) = some (.type "function")
  xc_There : ExcC K (He.ga K "There")
  xn_There_thing : chN K "There" "thing" = true
  xm_There_StoreError : PySem.W.exmOne K (.ref (He.ga K "There")) (.ref (He.ga K "StoreError")) = some true
  xm_There_Missing : PySem.W.exmOne K (.ref (He.ga K "There")) (.ref (He.ga K "Missing")) = some false
  xm_There_NoFile : PySem.W.exmOne K (.ref (He.ga K "There")) (.ref (He.ga K "NoFile")) = some false
  xm_There_There : PySem.W.exmOne K (.ref (He.ga K "There")) (.ref (He.ga K "There")) = some true
  xm_There_TooMany : PySem.W.exmOne K (.ref (He.ga K "There")) (.ref (He.ga K "TooMany")) = some false
  xk_There_NoFile : PySem.W.kitOne K (.ref (He.ga K "There")) (.ref (He.ga K "NoFile")) = some false
  xk_There_There : PySem.W.kitOne K (.ref (He.ga K "There")) (.ref (He.ga K "There")) = some true
  xk_There_TooMany : PySem.W.kitOne K (.ref (He.ga K "There")) (.ref (He.ga K "TooMany")) = some false
  xk_There_LookupError : PySem.W.kitOne K (.ref (He.ga K "There")) (.type "LookupError") = some false
  xk_There_ValueError : PySem.W.kitOne K (.ref (He.ga K "There")) (.type "ValueError") = some true
  xk_There_Wrong : PySem.W.kitOne K (.ref (He.ga K "There")) (.ref (He.ga K "Wrong")) = some false
  b_abs : mg "abs" = none
  b_len : mg "len" = none
  b_range : mg "range" = none
  b_list : mg "list" = none
  b_repr : mg "repr" = none
  b_isinstance : mg "isinstance" = none
  b_str : mg "str" = none
  b_int : mg "int" = none
  b_bool : mg "bool" = none
  b_all : mg "all" = none
  b_LookupError : mg "LookupError" = none
  b_ValueError : mg "ValueError" = none
  b_sorted : mg "sorted" = none
  b_dict : mg "dict" = none
theorem Txt.c {K : PySem.W.Frag} {mg : Str → Option Value} (T : Txt K mg) : TxC K := ⟨T.cl_House, T.na_House_signs_by, T.xc_Wrong, T.xn_Wrong_at, T.xm_Wrong_StoreError, T.xm_Wrong_Missing, T.xm_Wrong_NoFile, T.xm_Wrong_There, T.xm_Wrong_TooMany, T.xk_Wrong_NoFile, T.xk_Wrong_There, T.xk_Wrong_TooMany, T.xk_Wrong_LookupError, T.xk_Wrong_ValueError, T.xk_Wrong_Wrong, T.xc_TooMany, T.xn_TooMany_most, T.xm_TooMany_StoreError, T.xm_TooMany_Missing, T.xm_TooMany_NoFile, T.xm_TooMany_There, T.xm_TooMany_TooMany, T.xk_TooMany_NoFile, T.xk_TooMany_There, T.xk_TooMany_TooMany, T.xk_TooMany_LookupError, T.xk_TooMany_ValueError, T.xk_TooMany_Wrong, T.xc_NoFile, T.xn_NoFile_name, T.xm_NoFile_StoreError, T.xm_NoFile_Missing, T.xm_NoFile_NoFile, T.xm_NoFile_There, T.xm_NoFile_TooMany, T.xk_NoFile_NoFile, T.xk_NoFile_There, T.xk_NoFile_TooMany, T.xk_NoFile_LookupError, T.xk_NoFile_ValueError, T.xk_NoFile_Wrong, T.xc_There, T.xn_There_thing, T.xm_There_StoreError, T.xm_There_Missing, T.xm_There_NoFile, T.xm_There_There, T.xm_There_TooMany, T.xk_There_NoFile, T.xk_There_There, T.xk_There_TooMany, T.xk_There_LookupError, T.xk_There_ValueError, T.xk_There_Wrong⟩
section
variable {P : Program} {w : World} {K : PySem.W.Frag} {mg : Str → Option Value} {base : Heap}
theorem sc_Wrong___init__ : FnScope ["self", "at"] ["self", "at"] (defScope s_Wrong___init__) := ⟨rfl, rfl, rfl, by decide +kernel, rfl, by decide +kernel, by decide +kernel⟩
theorem bd_Wrong___init__ (T : Txt K mg) : Binds K (fdOf K (mA K "Wrong" "__init__")) ["self", "at"] [] := T.F_Wrong___init__.bindsN fun _ _ _ _ _ _ us hl => match us, hl with | [_, _], _ => rfl
theorem ok_Wrong___init__ (T : Txt K mg) : FnX false P w K mg base CX0 1 (mA K "Wrong" "__init__") (fdOf K (mA K "Wrong" "__init__")) ["self", "at"] (spX (He.ga K "Wrong") "at") := by
  refine okX T.F_Wrong___init__ sc_Wrong___init__ lenX (fun cdv A outer s H vs Q E hgu0 hr h => ⟨_, PSs.nox ?_, pureX (msg := "not what is wanted here") rfl T.xb_Wrong (chN_ok T.xn_Wrong_at) vs H Q E h⟩)
  exact (pss_cons (ps_expr (pe_xi rfl T.cg_StoreError T.xi_StoreError (pa_cons (pv 0) (pa_cons pe_str pa_nil)))) (pss_one (ps_xs (pv 0) (pv 1))))
theorem sc_TooMany___init__ : FnScope ["self", "most"] ["self", "most"] (defScope s_TooMany___init__) := ⟨rfl, rfl, rfl, by decide +kernel, rfl, by decide +kernel, by decide +kernel⟩
theorem bd_TooMany___init__ (T : Txt K mg) : Binds K (fdOf K (mA K "TooMany" "__init__")) ["self", "most"] [] := T.F_TooMany___init__.bindsN fun _ _ _ _ _ _ us hl => match us, hl with | [_, _], _ => rfl
theorem ok_TooMany___init__ (T : Txt K mg) : FnX false P w K mg base CX0 1 (mA K "TooMany" "__init__") (fdOf K (mA K "TooMany" "__init__")) ["self", "most"] (spX (He.ga K "TooMany") "most") := by
  refine okX T.F_TooMany___init__ sc_TooMany___init__ lenX (fun cdv A outer s H vs Q E hgu0 hr h => ⟨_, PSs.nox ?_, pureX (msg := "too many") rfl T.xb_TooMany (chN_ok T.xn_TooMany_most) vs H Q E h⟩)
  exact (pss_cons (ps_expr (pe_xi rfl T.cg_StoreError T.xi_StoreError (pa_cons (pv 0) (pa_cons pe_str pa_nil)))) (pss_one (ps_xs (pv 0) (pv 1))))
theorem sc_NoFile___init__ : FnScope ["self", "name"] ["self", "name"] (defScope s_NoFile___init__) := ⟨rfl, rfl, rfl, by decide +kernel, rfl, by decide +kernel, by decide +kernel⟩
theorem bd_NoFile___init__ (T : Txt K mg) : Binds K (fdOf K (mA K "NoFile" "__init__")) ["self", "name"] [] := T.F_NoFile___init__.bindsN fun _ _ _ _ _ _ us hl => match us, hl with | [_, _], _ => rfl
theorem ok_NoFile___init__ (T : Txt K mg) : FnX false P w K mg base CX0 1 (mA K "NoFile" "__init__") (fdOf K (mA K "NoFile" "__init__")) ["self", "name"] (spX (He.ga K "NoFile") "name") := by
  refine okX T.F_NoFile___init__ sc_NoFile___init__ lenX (fun cdv A outer s H vs Q E hgu0 hr h => ⟨_, PSs.nox ?_, pureX (msg := "no such file") rfl T.xb_NoFile (chN_ok T.xn_NoFile_name) vs H Q E h⟩)
  exact (pss_cons (ps_expr (pe_xi rfl T.cg_Missing T.xi_Missing (pa_cons (pv 0) (pa_cons pe_str pa_nil)))) (pss_one (ps_xs (pv 0) (pv 1))))
theorem sc_There___init__ : FnScope ["self", "thing"] ["self", "thing"] (defScope s_There___init__) := ⟨rfl, rfl, rfl, by decide +kernel, rfl, by decide +kernel, by decide +kernel⟩
theorem bd_There___init__ (T : Txt K mg) : Binds K (fdOf K (mA K "There" "__init__")) ["self", "thing"] [] := T.F_There___init__.bindsN fun _ _ _ _ _ _ us hl => match us, hl with | [_, _], _ => rfl
theorem ok_There___init__ (T : Txt K mg) : FnX false P w K mg base CX0 1 (mA K "There" "__init__") (fdOf K (mA K "There" "__init__")) ["self", "thing"] (spX (He.ga K "There") "thing") := by
  refine okX T.F_There___init__ sc_There___init__ lenX (fun cdv A outer s H vs Q E hgu0 hr h => ⟨_, PSs.nox ?_, pureX (msg := "it is there already") rfl T.xb_There (chN_ok T.xn_There_thing) vs H Q E h⟩)
  exact (pss_cons (ps_expr (pe_xi rfl T.cg_StoreError T.xi_StoreError (pa_cons (pv 0) (pa_cons pe_str pa_nil)))) (pss_one (ps_xs (pv 0) (pv 1))))
theorem sc_l_bag : FnScope ["_law_script", "_law_cell"] ["_law_script"] (defScope s_l_bag) := ⟨rfl, rfl, rfl, by decide +kernel, rfl, by decide +kernel, by decide +kernel⟩
theorem bd_l_bag (T : Txt K mg) : Binds K (fdOf K (He.ga K "_law_bag")) ["_law_script"] [] := T.F_l_bag.bindsN fun _ _ _ _ _ _ us hl => match us, hl with | [_], _ => rfl
theorem ok_l_bag (T : Txt K mg) (nd : NDX base) : FnX false P w K mg base CX0 1 (He.ga K "_law_bag") (fdOf K (He.ga K "_law_bag")) ["_law_script"] (sp_l_bag K) := by
  refine okX T.F_l_bag sc_l_bag len_l_bag (fun cdv A outer s H vs Q E hgu0 hr h => ⟨t_l_bag K, PSs.nox ?_, pure_l_bag vs H Q E h⟩)
  exact (pss_one (ps_ret (pe_lst (pa_cons pe_int (pa_cons pe_int (pa_cons pe_int (pa_cons (pe_lc (own := [("_law_cell", 1)]) (g := (gName 1)) (tt := tYes) rfl sc_l_bag.nd (pi_list (pe_slice sl_any (pv 0) po_none (po_some pe_int))) (blkOk_by (own := [("_law_cell", 1)]) (N := ["_law_script", "_law_cell"]) (sc := defScope s_l_bag) (by decide +kernel)) (fun _ _ _ _ _ => (pg_name (i := 1) sc_l_bag.nd rfl (by first | exact Or.inl rfl | exact Or.inr rfl))) (fun _ _ _ _ _ => pts_nil) (fun _ _ _ _ _ => (pe_callB cr_abs (by rfl) T.b_abs (by decide +kernel) (pa_cons (pv 1) pa_nil)))) pa_nil)))))))
theorem sc_l_take : FnScope ["_law_bag_here", "_law_many", "_law_first", "_law_second", "_law_cell", "_law_value"] ["_law_bag_here", "_law_many"] (defScope s_l_take) := ⟨rfl, rfl, rfl, by decide +kernel, rfl, by decide +kernel, by decide +kernel⟩
theorem bd_l_take (T : Txt K mg) : Binds K (fdOf K (He.ga K "_law_take")) ["_law_bag_here", "_law_many"] [] := T.F_l_take.bindsN fun _ _ _ _ _ _ us hl => match us, hl with | [_, _], _ => rfl
theorem ok_l_take (T : Txt K mg) (nd : NDX base) : FnX false P w K mg base CX0 1 (He.ga K "_law_take") (fdOf K (He.ga K "_law_take")) ["_law_bag_here", "_law_many"] (sp_l_take K) := by
  refine okX T.F_l_take sc_l_take len_l_take (fun cdv A outer s H vs Q E hgu0 hr h => ⟨t_l_take K, PSs.nox ?_, pure_l_take vs H Q E h⟩)
  exact (pss_cons (ps_if (pt_cmpR (uo_eq hr.units) (pe_ix ix_any (pv 0) pe_int (fun _ _ => rfl)) pe_int (nomark _)) (pss_cons (ps_set (i := 4) sc_l_take.nd rfl (by first | exact Or.inl rfl | exact Or.inr rfl) pe_int)
      (pss_cons (ps_if (pt_cmpR uo_lt (pe_ix ix_any (pv 0) pe_int (fun _ _ => rfl)) (pe_callB cr_len (by rfl) T.b_len (by decide +kernel) (pa_cons (pe_ix ix_any (pv 0) pe_int (fun _ _ => rfl)) pa_nil)) (nomark _)) (pss_one (ps_set (i := 4) sc_l_take.nd rfl (by first | exact Or.inl rfl | exact Or.inr rfl) (pe_ix ix_any (pe_ix ix_any (pv 0) pe_int (fun _ _ => rfl)) (pe_ix ix_any (pv 0) pe_int (fun _ _ => rfl)) (fun _ _ => rfl)))) pss_nil)
      (pss_cons (ps_augS (pv 0) pe_int (get_any hr.u1) pe_int (ip_of io_add) (set_any hr.u1))
      (pss_cons (ps_if (pt_cmpR uo_ge (pv 4) pe_int (nomark _)) (pss_one (ps_asg (pv 4) (pg_sub (pv 0) pe_int (set_any hr.u1)))) pss_nil)
      (pss_one (ps_asg (pe_op uo_mod (pe_op uo_add (pe_op uo_add (pe_op uo_mul (pe_ix ix_any (pv 0) pe_int (fun _ _ => rfl)) pe_int) (pe_op uo_mod (pv 4) pe_int)) (pe_op uo_mul pe_int (pe_ix ix_any (pv 0) pe_int (fun _ _ => rfl)))) pe_int) (pg_sub (pv 0) pe_int (set_any hr.u1)))))))) pss_nil)
      (pss_cons (ps_if (pt_cmpR uo_gt (pe_ix ix_any (pv 0) pe_int (fun _ _ => rfl)) pe_int (nomark _)) (pss_cons (ps_set (i := 5) sc_l_take.nd rfl (by first | exact Or.inl rfl | exact Or.inr rfl) (pe_op uo_mod (pe_ix ix_any (pv 0) pe_int (fun _ _ => rfl)) (pv 1)))
      (pss_cons (ps_asg (pe_op uo_div (pe_ix ix_any (pv 0) pe_int (fun _ _ => rfl)) (pv 1)) (pg_sub (pv 0) pe_int (set_any hr.u1)))
      (pss_one (ps_ret (pv 5))))) pss_nil)
      (pss_cons (ps_set (i := 2) sc_l_take.nd rfl (by first | exact Or.inl rfl | exact Or.inr rfl) (pe_op uo_mod (pe_op uo_mul (pe_op uo_add (pe_ix ix_any (pv 0) pe_int (fun _ _ => rfl)) pe_int) pe_int) pe_int))
      (pss_cons (ps_set (i := 3) sc_l_take.nd rfl (by first | exact Or.inl rfl | exact Or.inr rfl) (pe_op uo_mod (pe_op uo_mul (pe_op uo_mod (pe_op uo_mul (pv 2) (pv 2)) pe_int) pe_int) pe_int))
      (pss_cons (ps_if (pt_cmpR uo_gt (pv 1) pe_int (nomark _)) (pss_one (ps_ret (pe_op uo_mod (pe_op uo_add (pe_op uo_mul (pv 3) pe_int) (pv 2)) (pv 1)))) pss_nil)
      (pss_one (ps_ret (pe_op uo_mod (pe_op uo_div (pv 3) pe_int) (pv 1)))))))))
theorem sc_l_names : FnScope ["_law_bag_here", "_law_many", "_law_letters", "_law_words", "_law_pick", "_law_turn", "_law_size", "_law_at", "_law_base", "_law_k"] ["_law_bag_here", "_law_many"] (defScope s_l_names) := ⟨rfl, rfl, rfl, by decide +kernel, rfl, by decide +kernel, by decide +kernel⟩
theorem bd_l_names (T : Txt K mg) : Binds K (fdOf K (He.ga K "_law_names")) ["_law_bag_here", "_law_many"] [] := T.F_l_names.bindsN fun _ _ _ _ _ _ us hl => match us, hl with | [_, _], _ => rfl
theorem ok_l_names (T : Txt K mg) (nd : NDX base) : FnX false P w K mg base CX0 2 (He.ga K "_law_names") (fdOf K (He.ga K "_law_names")) ["_law_bag_here", "_law_many"] (sp_l_names K) := by
  refine okX T.F_l_names sc_l_names len_l_names (fun cdv A outer s H vs Q E hgu0 hr h => ⟨t_l_names K, PSs.nox ?_, pure_l_names vs H Q E h⟩)
  exact (pss_cons (ps_set (i := 2) sc_l_names.nd rfl (by first | exact Or.inl rfl | exact Or.inr rfl) pe_str)
      (pss_cons (ps_set (i := 3) sc_l_names.nd rfl (by first | exact Or.inl rfl | exact Or.inr rfl) (pe_lst (pa_cons pe_str (pa_cons pe_str (pa_cons pe_str (pa_cons pe_str (pa_cons pe_str (pa_cons pe_str (pa_cons pe_str (pa_cons pe_str (pa_cons pe_str (pa_cons pe_str (pa_cons pe_str (pa_cons pe_str pa_nil))))))))))))))
      (pss_cons (ps_set (i := 4) sc_l_names.nd rfl (by first | exact Or.inl rfl | exact Or.inr rfl) (pe_callX (ok_l_take T nd) (fun z => nomatch z) hr rfl T.g_l_take T.F_l_take.kp (bd_l_take T) .nil pass0 (pa_cons (pv 0) (pa_cons pe_int pa_nil))))
      (pss_cons (ps_set (i := 5) sc_l_names.nd rfl (by first | exact Or.inl rfl | exact Or.inr rfl) (pe_callX (ok_l_take T nd) (fun z => nomatch z) hr rfl T.g_l_take T.F_l_take.kp (bd_l_take T) .nil pass0 (pa_cons (pv 0) (pa_cons pe_int pa_nil))))
      (pss_cons (ps_set (i := 6) sc_l_names.nd rfl (by first | exact Or.inl rfl | exact Or.inr rfl) (pe_op uo_add pe_int (pe_callX (ok_l_take T nd) (fun z => nomatch z) hr rfl T.g_l_take T.F_l_take.kp (bd_l_take T) .nil pass0 (pa_cons (pv 0) (pa_cons pe_int pa_nil)))))
      (pss_cons (ps_set (i := 7) sc_l_names.nd rfl (by first | exact Or.inl rfl | exact Or.inr rfl) (pe_callX (ok_l_take T nd) (fun z => nomatch z) hr rfl T.g_l_take T.F_l_take.kp (bd_l_take T) .nil pass0 (pa_cons (pv 0) (pa_cons (pv 6) pa_nil))))
      (pss_cons (ps_set (i := 8) sc_l_names.nd rfl (by first | exact Or.inl rfl | exact Or.inr rfl) (pe_lc (own := [("_law_k", 9)]) (g := (gName 9)) (tt := tYes) rfl sc_l_names.nd (pi_range1 (by rfl) T.b_range (pa_cons (pv 6) pa_nil)) (blkOk_by (own := [("_law_k", 9)]) (N := ["_law_bag_here", "_law_many", "_law_letters", "_law_words", "_law_pick", "_law_turn", "_law_size", "_law_at", "_law_base", "_law_k"]) (sc := defScope s_l_names) (by decide +kernel)) (fun _ _ _ _ _ => (pg_name (i := 9) sc_l_names.nd rfl (by first | exact Or.inl rfl | exact Or.inr rfl))) (fun _ _ _ _ _ => pts_nil) (fun _ _ _ _ _ => (pe_ix ix_any (pv 2) (pe_callX (ok_l_take T nd) (fun z => nomatch z) hr rfl T.g_l_take T.F_l_take.kp (bd_l_take T) .nil pass0 (pa_cons (pv 0) (pa_cons pe_int pa_nil))) (fun _ _ => rfl)))))
      (pss_cons (ps_if (pt_cmpR (uo_eq hr.units) (pv 4) pe_int (nomark _)) (pss_one (ps_ret (pe_slice sl_any (pe_slice sl_any (pe_op uo_add (pv 3) (pv 3)) (po_some (pe_op uo_mod (pv 5) pe_int)) po_none) po_none (po_some (pv 1))))) pss_nil)
      (pss_one (ps_ret (pe_lc (own := [("_law_k", 9)]) (g := (gName 9)) (tt := tYes) rfl sc_l_names.nd (pi_range1 (by rfl) T.b_range (pa_cons (pv 1) pa_nil)) (blkOk_by (own := [("_law_k", 9)]) (N := ["_law_bag_here", "_law_many", "_law_letters", "_law_words", "_law_pick", "_law_turn", "_law_size", "_law_at", "_law_base", "_law_k"]) (sc := defScope s_l_names) (by decide +kernel)) (fun _ _ _ _ _ => (pg_name (i := 9) sc_l_names.nd rfl (by first | exact Or.inl rfl | exact Or.inr rfl))) (fun _ _ _ _ _ => pts_nil) (fun _ _ _ _ _ => (pe_join pe_str (pe_op uo_add (pe_op uo_add (pe_slice sl_any (pv 8) po_none (po_some (pv 7))) (pe_lst (pa_cons (pe_ix ix_any (pv 2) (pe_op uo_mod (pe_op uo_add (pv 5) (pv 9)) pe_int) (fun _ _ => rfl)) pa_nil))) (pe_slice sl_any (pv 8) (po_some (pe_op uo_add (pv 7) pe_int)) po_none)))))))))))))))
theorem sc_House___init__ : FnScope ["self"] ["self"] (defScope s_House___init__) := ⟨rfl, rfl, rfl, by decide +kernel, rfl, by decide +kernel, by decide +kernel⟩
theorem bd_House___init__ (T : Txt K mg) : Binds K (fdOf K (mA K "House" "__init__")) ["self"] [] := T.F_House___init__.bindsN fun _ _ _ _ _ _ us hl => match us, hl with | [_], _ => rfl
theorem ok_House___init__ (T : Txt K mg) (nd : NDX base) : FnX false P w K mg base CX0 1 (mA K "House" "__init__") (fdOf K (mA K "House" "__init__")) ["self"] (sp_House___init__ K) := by
  refine okX T.F_House___init__ sc_House___init__ len_House___init__ (fun cdv A outer s H vs Q E hgu0 hr h => ⟨t_House___init__ K, PSs.nox ?_, pure_House___init__ T.c vs H Q E h⟩)
  exact (pss_one (ps_fld (pv 0) pe_dnewK (by rfl)))
theorem sc_l_due : FnScope ["_law_files", "_law_deed", "_law_word", "_law_name"] ["_law_files", "_law_deed"] (defScope s_l_due) := ⟨rfl, rfl, rfl, by decide +kernel, rfl, by decide +kernel, by decide +kernel⟩
theorem bd_l_due (T : Txt K mg) : Binds K (fdOf K (He.ga K "_law_due")) ["_law_files", "_law_deed"] [] := T.F_l_due.bindsN fun _ _ _ _ _ _ us hl => match us, hl with | [_, _], _ => rfl
theorem ok_l_due (T : Txt K mg) (nd : NDX base) : FnX false P w K mg base CX0 1 (He.ga K "_law_due") (fdOf K (He.ga K "_law_due")) ["_law_files", "_law_deed"] (sp_l_due K) := by
  refine okX T.F_l_due sc_l_due len_l_due (fun cdv A outer s H vs Q E hgu0 hr h => ⟨t_l_due K, PSs.nox ?_, pure_l_due vs H Q E h⟩)
  exact (pss_cons (ps_asg (pe_slice sl_tupA (pv 1) po_none (po_some pe_int)) (pg_tup rfl (pgs_cons (pg_name (i := 2) sc_l_due.nd rfl (by first | exact Or.inl rfl | exact Or.inr rfl)) (pgs_cons (pg_name (i := 3) sc_l_due.nd rfl (by first | exact Or.inl rfl | exact Or.inr rfl)) pgs_nil))))
      (pss_cons (ps_if (PW.pt (pw_and (pt_cmpR (uo_eq hr.units) (pv 2) pe_str (nomark _)) (pw_and (pt_cmpR (uo_notinU hr.u65) (pv 3) (pv 0) (by rfl)) (pw_and1 (pt_cmpR (uo_eq hr.units) (pe_callB cr_len (by rfl) T.b_len (by decide +kernel) (pa_cons (pv 0) pa_nil)) pe_int (nomark _)))))) (pss_one (ps_ret (pe_tup (pa_cons pe_str (pa_cons pe_int pa_nil))))) pss_nil)
      (pss_cons (ps_if (PW.pt (pw_and (pt_cmpR (uo_inU hr.u65) (pv 2) (pe_tup (pa_cons pe_str (pa_cons pe_str (pa_cons pe_str pa_nil)))) (by rfl)) (pw_and1 (pt_cmpR (uo_notinU hr.u65) (pv 3) (pv 0) (by rfl))))) (pss_one (ps_ret (pe_tup (pa_cons pe_str (pa_cons (pv 3) pa_nil))))) pss_nil)
      (pss_cons (ps_if (PW.pt (pw_and (pt_cmpR (uo_eq hr.units) (pv 2) pe_str (nomark _)) (pw_and1 (pt_cmpR (uo_inU hr.u65) (pe_ix ix_any (pv 1) pe_int (fun _ _ => rfl)) (pv 0) (by rfl))))) (pss_one (ps_ret (pe_tup (pa_cons pe_str (pa_cons (pe_ix ix_any (pv 1) pe_int (fun _ _ => rfl)) pa_nil))))) pss_nil)
      (pss_one (ps_ret pe_non))))))
theorem sc_l_do : FnScope ["_law_files", "_law_deed", "_law_word", "_law_name", "_law_one"] ["_law_files", "_law_deed"] (defScope s_l_do) := ⟨rfl, rfl, rfl, by decide +kernel, rfl, by decide +kernel, by decide +kernel⟩
theorem bd_l_do (T : Txt K mg) : Binds K (fdOf K (He.ga K "_law_do")) ["_law_files", "_law_deed"] [] := T.F_l_do.bindsN fun _ _ _ _ _ _ us hl => match us, hl with | [_, _], _ => rfl
theorem ok_l_do (T : Txt K mg) (nd : NDX base) : FnX false P w K mg base CX0 1 (He.ga K "_law_do") (fdOf K (He.ga K "_law_do")) ["_law_files", "_law_deed"] (sp_l_do K) := by
  refine okX T.F_l_do sc_l_do len_l_do (fun cdv A outer s H vs Q E hgu0 hr h => ⟨t_l_do K, PSs.nox ?_, pure_l_do vs H Q E h⟩)
  exact (pss_cons (ps_asg (pe_slice sl_tupA (pv 1) po_none (po_some pe_int)) (pg_tup rfl (pgs_cons (pg_name (i := 2) sc_l_do.nd rfl (by first | exact Or.inl rfl | exact Or.inr rfl)) (pgs_cons (pg_name (i := 3) sc_l_do.nd rfl (by first | exact Or.inl rfl | exact Or.inr rfl)) pgs_nil))))
      (pss_cons (ps_if (pt_cmpR (uo_eq hr.units) (pv 2) pe_str (nomark _)) (pss_one (ps_ret (pe_callTy cr_list (by rfl) T.b_list (by decide +kernel) (pa_cons (pe_ix (ix_dk hr.u1) (pv 0) (pv 3) (fun _ _ => rfl)) pa_nil)))) pss_nil)
      (pss_cons (ps_if (pt_cmpR (uo_eq hr.units) (pv 2) pe_str (nomark _)) (pss_one (ps_asg (pe_callTy cr_list (by rfl) T.b_list (by decide +kernel) (pa_cons (pe_ix ix_any (pv 1) pe_int (fun _ _ => rfl)) pa_nil)) (pg_sub (pv 0) (pv 3) (set_any hr.u1)))) pss_nil)
      (pss_cons (ps_if (pt_cmpR (uo_eq hr.units) (pv 2) pe_str (nomark _)) (pss_one (ps_expr (pe_dpop1 (pv 0) (pv 3) ⟨by rfl, by rfl, by rfl, by rfl⟩))) pss_nil)
      (pss_cons (ps_if (pt_cmpR (uo_eq hr.units) (pv 2) pe_str (nomark _)) (pss_one (ps_asg (pe_dpop1 (pv 0) (pv 3) ⟨by rfl, by rfl, by rfl, by rfl⟩) (pg_sub (pv 0) (pe_ix ix_any (pv 1) pe_int (fun _ _ => rfl)) (set_any hr.u1)))) pss_nil)
      (pss_cons (ps_if (pt_cmpR (uo_eq hr.units) (pv 2) pe_str (nomark _)) (pss_cons ps_never
      (pss_one ps_never)) pss_nil)
      (pss_one (ps_ret pe_non))))))))
theorem sc_l_alike : FnScope ["_law_found", "_law_due_here"] ["_law_found", "_law_due_here"] (defScope s_l_alike) := ⟨rfl, rfl, rfl, by decide +kernel, rfl, by decide +kernel, by decide +kernel⟩
theorem bd_l_alike (T : Txt K mg) : Binds K (fdOf K (He.ga K "_law_alike")) ["_law_found", "_law_due_here"] [] := T.F_l_alike.bindsN fun _ _ _ _ _ _ us hl => match us, hl with | [_, _], _ => rfl
theorem ok_l_alike (T : Txt K mg) (nd : NDX base) : FnX true P w K mg base CX0 1 (He.ga K "_law_alike") (fdOf K (He.ga K "_law_alike")) ["_law_found", "_law_due_here"] (sp_l_alike K) := by
  refine okX T.F_l_alike sc_l_alike len_l_alike (fun cdv A outer s H vs Q E hgu0 hr h => ⟨t_l_alike K, PSs.nox ?_, pure_l_alike vs H Q E h⟩)
  have hgu : (A.deeper (envOfC "_law_alike" (defScope s_l_alike) s.heap.objs.size (He.ga K "_law_alike") cdv)).guards = some [] := hgu0 rfl
  exact (pss_one (ps_ret (pe_and (pe_cmpR (uo_eqQ (units128 hr)) (pv 0) (pv 1) (nomark _)) (pe_one (pe_cmpR (uo_eqQ (units128 hr)) (pe_callB (cr_reprQ nd.2 hgu hr.units) (by rfl) T.b_repr (by decide +kernel) (pa_cons (pv 0) pa_nil)) (pe_callB (cr_reprQ nd.2 hgu hr.units) (by rfl) T.b_repr (by decide +kernel) (pa_cons (pv 1) pa_nil)) (nomark _))))))
theorem sc_wanted : FnScope ["at", "fits"] ["at", "fits"] (defScope s_wanted) := ⟨rfl, rfl, rfl, by decide +kernel, rfl, by decide +kernel, by decide +kernel⟩
theorem bd_wanted (T : Txt K mg) : Binds K (fdOf K (He.ga K "wanted")) ["at", "fits"] [] := T.F_wanted.bindsN fun _ _ _ _ _ _ us hl => match us, hl with | [_, _], _ => rfl
theorem ok_wanted (T : Txt K mg) (nd : NDX base) : FnX false P w K mg base (L2.CX P w) 3 (He.ga K "wanted") (fdOf K (He.ga K "wanted")) ["at", "fits"] (sp_wanted K) := by
  refine okW T.F_wanted sc_wanted len_wanted (fun cdv A outer s H vs Q E hgu0 hr h tk pw => ⟨t_wanted K (WT E), ?_, pure_wanted T.c vs H Q E h⟩)
  exact (pss_one (ps_if (pt_not (pt_val (pv 1))) (pss_one (ps_rz rfl tk T.xb_Wrong T.xf_Wrong.1 T.xf_Wrong.2 (ok_Wrong___init__ T) (hr.mono (by decide)) (bd_Wrong___init__ T) (fun _ _ _ _ _ _ _ z => z.elim) rfl T.cg_Wrong (pv 0))) pss_nil))
theorem sc_is_name : FnScope ["thing", "letter"] ["thing"] (defScope s_is_name) := ⟨rfl, rfl, rfl, by decide +kernel, rfl, by decide +kernel, by decide +kernel⟩
theorem bd_is_name (T : Txt K mg) : Binds K (fdOf K (He.ga K "is_name")) ["thing"] [] := T.F_is_name.bindsN fun _ _ _ _ _ _ us hl => match us, hl with | [_], _ => rfl
theorem ok_is_name (T : Txt K mg) (nd : NDX base) : FnX false P w K mg base CX0 1 (He.ga K "is_name") (fdOf K (He.ga K "is_name")) ["thing"] (sp_is_name K) := by
  refine okX T.F_is_name sc_is_name len_is_name (fun cdv A outer s H vs Q E hgu0 hr h => ⟨t_is_name K, PSs.nox ?_, pure_is_name vs H Q E h⟩)
  exact (pss_cons (ps_if (PW.pt (pw_or (pt_not (pt_val (pe_callB call_isi (by rfl) T.b_isinstance (by decide +kernel) (pa_cons (pv 0) (pa_cons (pe_bltn (by rfl) T.b_str (by decide +kernel) rfl) pa_nil))))) (pw_or1 (pt_not (pt_chain uo_le uo_le pe_int (pe_callB cr_len (by rfl) T.b_len (by decide +kernel) (pa_cons (pv 0) pa_nil)) (pe_globI rfl T.c_LONGEST)))))) (pss_one (ps_ret pe_bl)) pss_nil)
      (pss_cons (ps_for PassesOwn.never rfl (pi_str (pv 0)) (pg_name (i := 1) sc_is_name.nd rfl (by first | exact Or.inl rfl | exact Or.inr rfl)) (pss_one (ps_if (pt_cmpR (uo_notinU hr.u65) (pv 1) (pe_globS rfl T.c_LETTERS) (by rfl)) (pss_one (ps_ret pe_bl)) pss_nil)))
      (pss_one (ps_ret pe_bl))))
theorem sc_is_whole : FnScope ["thing"] ["thing"] (defScope s_is_whole) := ⟨rfl, rfl, rfl, by decide +kernel, rfl, by decide +kernel, by decide +kernel⟩
theorem bd_is_whole (T : Txt K mg) : Binds K (fdOf K (He.ga K "is_whole")) ["thing"] [] := T.F_is_whole.bindsN fun _ _ _ _ _ _ us hl => match us, hl with | [_], _ => rfl
theorem ok_is_whole (T : Txt K mg) (nd : NDX base) : FnX false P w K mg base CX0 1 (He.ga K "is_whole") (fdOf K (He.ga K "is_whole")) ["thing"] (sp_is_whole K) := by
  refine okX T.F_is_whole sc_is_whole len_is_whole (fun cdv A outer s H vs Q E hgu0 hr h => ⟨t_is_whole K, PSs.nox ?_, pure_is_whole vs H Q E h⟩)
  exact (pss_one (ps_ret (pe_and (pe_callB call_isi (by rfl) T.b_isinstance (by decide +kernel) (pa_cons (pv 0) (pa_cons (pe_bltn (by rfl) T.b_int (by decide +kernel) rfl) pa_nil))) (pe_one (pe_not (pe_callB call_isi (by rfl) T.b_isinstance (by decide +kernel) (pa_cons (pv 0) (pa_cons (pe_bltn (by rfl) T.b_bool (by decide +kernel) rfl) pa_nil))))))))
theorem sc_is_sign : FnScope ["thing"] ["thing"] (defScope s_is_sign) := ⟨rfl, rfl, rfl, by decide +kernel, rfl, by decide +kernel, by decide +kernel⟩
theorem bd_is_sign (T : Txt K mg) : Binds K (fdOf K (He.ga K "is_sign")) ["thing"] [] := T.F_is_sign.bindsN fun _ _ _ _ _ _ us hl => match us, hl with | [_], _ => rfl
theorem ok_is_sign (T : Txt K mg) (nd : NDX base) : FnX false P w K mg base CX0 2 (He.ga K "is_sign") (fdOf K (He.ga K "is_sign")) ["thing"] (sp_is_sign K) := by
  refine okX T.F_is_sign sc_is_sign len_is_sign (fun cdv A outer s H vs Q E hgu0 hr h => ⟨t_is_sign K, PSs.nox ?_, pure_is_sign vs H Q E h⟩)
  exact (pss_one (ps_ret (pe_and (pe_callX (ok_is_whole T nd) (fun z => nomatch z) hr rfl T.g_is_whole T.F_is_whole.kp (bd_is_whole T) .nil pass0 (pa_cons (pv 0) pa_nil)) (pe_one (pe_chain uo_le uo_le pe_int (pv 0) (pe_globI rfl T.c_MOST_SIGN))))))
theorem sc_are_signs : FnScope ["thing", "fewest", "most", "sign"] ["thing", "fewest", "most"] (defScope s_are_signs) := ⟨rfl, rfl, rfl, by decide +kernel, rfl, by decide +kernel, by decide +kernel⟩
theorem bd_are_signs (T : Txt K mg) : Binds K (fdOf K (He.ga K "are_signs")) ["thing", "fewest", "most"] [] := T.F_are_signs.bindsN fun _ _ _ _ _ _ us hl => match us, hl with | [_, _, _], _ => rfl
theorem ok_are_signs (T : Txt K mg) (nd : NDX base) : FnX false P w K mg base CX0 3 (He.ga K "are_signs") (fdOf K (He.ga K "are_signs")) ["thing", "fewest", "most"] (sp_are_signs K) := by
  refine okX T.F_are_signs sc_are_signs len_are_signs (fun cdv A outer s H vs Q E hgu0 hr h => ⟨t_are_signs K, PSs.nox ?_, pure_are_signs vs H Q E h⟩)
  exact (pss_cons (ps_if (PW.pt (pw_or (pt_not (pt_val (pe_callB call_isi (by rfl) T.b_isinstance (by decide +kernel) (pa_cons (pv 0) (pa_cons (pe_bltn (by rfl) T.b_list (by decide +kernel) rfl) pa_nil))))) (pw_or1 (pt_not (pt_chain uo_le uo_le (pv 1) (pe_callB cr_len (by rfl) T.b_len (by decide +kernel) (pa_cons (pv 0) pa_nil)) (pv 2)))))) (pss_one (ps_ret pe_bl)) pss_nil)
      (pss_cons (ps_for PassesOwn.never rfl (pi_list (pv 0)) (pg_name (i := 3) sc_are_signs.nd rfl (by first | exact Or.inl rfl | exact Or.inr rfl)) (pss_one (ps_if (pt_not (pt_val (pe_callX (ok_is_sign T nd) (fun z => nomatch z) hr rfl T.g_is_sign T.F_is_sign.kp (bd_is_sign T) .nil pass0 (pa_cons (pv 3) pa_nil)))) (pss_one (ps_ret pe_bl)) pss_nil)))
      (pss_one (ps_ret pe_bl))))
theorem sc_is_content : FnScope ["thing"] ["thing"] (defScope s_is_content) := ⟨rfl, rfl, rfl, by decide +kernel, rfl, by decide +kernel, by decide +kernel⟩
theorem bd_is_content (T : Txt K mg) : Binds K (fdOf K (He.ga K "is_content")) ["thing"] [] := T.F_is_content.bindsN fun _ _ _ _ _ _ us hl => match us, hl with | [_], _ => rfl
theorem ok_is_content (T : Txt K mg) (nd : NDX base) : FnX false P w K mg base CX0 4 (He.ga K "is_content") (fdOf K (He.ga K "is_content")) ["thing"] (sp_is_content K) := by
  refine okX T.F_is_content sc_is_content len_is_content (fun cdv A outer s H vs Q E hgu0 hr h => ⟨t_is_content K, PSs.nox ?_, pure_is_content vs H Q E h⟩)
  exact (pss_one (ps_ret (pe_callX (ok_are_signs T nd) (fun z => nomatch z) hr rfl T.g_are_signs T.F_are_signs.kp (bd_are_signs T) .nil pass0 (pa_cons (pv 0) (pa_cons pe_int (pa_cons (pe_globI rfl T.c_MOST_CONTENT) pa_nil))))))
theorem sc_House_write : FnScope ["self", "name", "content"] ["self", "name", "content"] (defScope s_House_write) := ⟨rfl, rfl, rfl, by decide +kernel, rfl, by decide +kernel, by decide +kernel⟩
theorem bd_House_write (T : Txt K mg) : Binds K (fdOf K (mA K "House" "write")) ["self", "name", "content"] [] := T.F_House_write.bindsN fun _ _ _ _ _ _ us hl => match us, hl with | [_, _, _], _ => rfl
theorem ok_House_write (T : Txt K mg) (nd : NDX base) : FnX false P w K mg base (L2.CX P w) 5 (mA K "House" "write") (fdOf K (mA K "House" "write")) ["self", "name", "content"] (sp_House_write K) := by
  refine okW T.F_House_write sc_House_write len_House_write (fun cdv A outer s H vs Q E hgu0 hr h tk pw => ⟨t_House_write K (WT E), ?_, pure_House_write T.c vs H Q E h⟩)
  exact (pss_cons (ps_expr (pe_callW (ok_wanted T nd) (fun z => nomatch z) (hr.mono (by decide)) rfl T.g_wanted T.F_wanted.kp (bd_wanted T) .nil (fun σ => passAt tk σ) (pa_cons pe_int (pa_cons (pe_callX (ok_is_name T nd) (fun z => nomatch z) (hr.mono (by decide)) rfl T.g_is_name T.F_is_name.kp (bd_is_name T) .nil pass0 (pa_cons (pv 1) pa_nil)) pa_nil))))
      (pss_cons (ps_expr (pe_callW (ok_wanted T nd) (fun z => nomatch z) (hr.mono (by decide)) rfl T.g_wanted T.F_wanted.kp (bd_wanted T) .nil (fun σ => passAt tk σ) (pa_cons pe_int (pa_cons (pe_callX (ok_is_content T nd) (fun z => nomatch z) hr rfl T.g_is_content T.F_is_content.kp (bd_is_content T) .nil pass0 (pa_cons (pv 2) pa_nil)) pa_nil))))
      (pss_cons (ps_if (PW.pt (pw_and (pt_cmpR (uo_notinU hr.u65) (pv 1) (pe_fld (pv 0) rfl) (by rfl)) (pw_and1 (pt_cmpR (uo_eq hr.units) (pe_callB cr_len (by rfl) T.b_len (by decide +kernel) (pa_cons (pe_fld (pv 0) rfl) pa_nil)) (pe_globI rfl T.c_MOST_KEPT) (nomark _))))) (pss_one (ps_rz rfl tk T.xb_TooMany T.xf_TooMany.1 T.xf_TooMany.2 (ok_TooMany___init__ T) (hr.mono (by decide)) (bd_TooMany___init__ T) (fun _ _ _ _ _ _ _ z => z.elim) rfl T.cg_TooMany (pe_globI rfl T.c_MOST_KEPT))) pss_nil)
      (pss_one (ps_asg (pe_callTy cr_list (by rfl) T.b_list (by decide +kernel) (pa_cons (pv 2) pa_nil)) (pg_sub (pe_fld (pv 0) rfl) (pv 1) (set_any hr.u1)))))))
theorem sc_House_need_file : FnScope ["self", "name"] ["self", "name"] (defScope s_House_need_file) := ⟨rfl, rfl, rfl, by decide +kernel, rfl, by decide +kernel, by decide +kernel⟩
theorem bd_House_need_file (T : Txt K mg) : Binds K (fdOf K (mA K "House" "need_file")) ["self", "name"] [] := T.F_House_need_file.bindsN fun _ _ _ _ _ _ us hl => match us, hl with | [_, _], _ => rfl
theorem ok_House_need_file (T : Txt K mg) (nd : NDX base) : FnX false P w K mg base (L2.CX P w) 3 (mA K "House" "need_file") (fdOf K (mA K "House" "need_file")) ["self", "name"] (sp_House_need_file K) := by
  refine okW T.F_House_need_file sc_House_need_file len_House_need_file (fun cdv A outer s H vs Q E hgu0 hr h tk pw => ⟨t_House_need_file K (WT E), ?_, pure_House_need_file T.c vs H Q E h⟩)
  exact (pss_one (ps_if (pt_cmpR (uo_notinU hr.u65) (pv 1) (pe_fld (pv 0) rfl) (by rfl)) (pss_one (ps_rz rfl tk T.xb_NoFile T.xf_NoFile.1 T.xf_NoFile.2 (ok_NoFile___init__ T) (hr.mono (by decide)) (bd_NoFile___init__ T) (fun _ _ _ _ _ _ _ z => z.elim) rfl T.cg_NoFile (pv 1))) pss_nil))
theorem sc_House_drop : FnScope ["self", "name"] ["self", "name"] (defScope s_House_drop) := ⟨rfl, rfl, rfl, by decide +kernel, rfl, by decide +kernel, by decide +kernel⟩
theorem bd_House_drop (T : Txt K mg) : Binds K (fdOf K (mA K "House" "drop")) ["self", "name"] [] := T.F_House_drop.bindsN fun _ _ _ _ _ _ us hl => match us, hl with | [_, _], _ => rfl
theorem ok_House_drop (T : Txt K mg) (nd : NDX base) : FnX false P w K mg base (L2.CX P w) 4 (mA K "House" "drop") (fdOf K (mA K "House" "drop")) ["self", "name"] (sp_House_drop K) := by
  refine okW T.F_House_drop sc_House_drop len_House_drop (fun cdv A outer s H vs Q E hgu0 hr h tk pw => ⟨t_House_drop K (WT E), ?_, pure_House_drop T.c vs H Q E h⟩)
  exact (pss_cons (ps_expr (pe_callW (ok_wanted T nd) (fun z => nomatch z) hr rfl T.g_wanted T.F_wanted.kp (bd_wanted T) .nil (fun σ => passAt tk σ) (pa_cons pe_int (pa_cons (pe_callX (ok_is_name T nd) (fun z => nomatch z) (hr.mono (by decide)) rfl T.g_is_name T.F_is_name.kp (bd_is_name T) .nil pass0 (pa_cons (pv 1) pa_nil)) pa_nil))))
      (pss_cons (ps_expr (pe_methW (pv 0) T.cl_House T.me_House_need_file (ok_House_need_file T nd) (fun z => nomatch z) hr (bd_House_need_file T) .nil (fun σ => passAt tk σ) (pa_cons (pv 1) pa_nil)))
      (pss_one (ps_expr (pe_dpop1 (pe_fld (pv 0) rfl) (pv 1) ⟨by rfl, by rfl, by rfl, by rfl⟩)))))
theorem sc_House_move : FnScope ["self", "name", "new"] ["self", "name", "new"] (defScope s_House_move) := ⟨rfl, rfl, rfl, by decide +kernel, rfl, by decide +kernel, by decide +kernel⟩
theorem bd_House_move (T : Txt K mg) : Binds K (fdOf K (mA K "House" "move")) ["self", "name", "new"] [] := T.F_House_move.bindsN fun _ _ _ _ _ _ us hl => match us, hl with | [_, _, _], _ => rfl
theorem ok_House_move (T : Txt K mg) (nd : NDX base) : FnX false P w K mg base (L2.CX P w) 4 (mA K "House" "move") (fdOf K (mA K "House" "move")) ["self", "name", "new"] (sp_House_move K) := by
  refine okW T.F_House_move sc_House_move len_House_move (fun cdv A outer s H vs Q E hgu0 hr h tk pw => ⟨t_House_move K (WT E), ?_, pure_House_move T.c vs H Q E h⟩)
  exact (pss_cons (ps_expr (pe_callW (ok_wanted T nd) (fun z => nomatch z) hr rfl T.g_wanted T.F_wanted.kp (bd_wanted T) .nil (fun σ => passAt tk σ) (pa_cons pe_int (pa_cons (pe_callX (ok_is_name T nd) (fun z => nomatch z) (hr.mono (by decide)) rfl T.g_is_name T.F_is_name.kp (bd_is_name T) .nil pass0 (pa_cons (pv 1) pa_nil)) pa_nil))))
      (pss_cons (ps_expr (pe_callW (ok_wanted T nd) (fun z => nomatch z) hr rfl T.g_wanted T.F_wanted.kp (bd_wanted T) .nil (fun σ => passAt tk σ) (pa_cons pe_int (pa_cons (pe_callX (ok_is_name T nd) (fun z => nomatch z) (hr.mono (by decide)) rfl T.g_is_name T.F_is_name.kp (bd_is_name T) .nil pass0 (pa_cons (pv 2) pa_nil)) pa_nil))))
      (pss_cons (ps_expr (pe_methW (pv 0) T.cl_House T.me_House_need_file (ok_House_need_file T nd) (fun z => nomatch z) hr (bd_House_need_file T) .nil (fun σ => passAt tk σ) (pa_cons (pv 1) pa_nil)))
      (pss_cons (ps_if (pt_cmpR (uo_inU hr.u65) (pv 2) (pe_fld (pv 0) rfl) (by rfl)) (pss_one (ps_rz rfl tk T.xb_There T.xf_There.1 T.xf_There.2 (ok_There___init__ T) (hr.mono (by decide)) (bd_There___init__ T) (fun _ _ _ _ _ _ _ z => z.elim) rfl T.cg_There (pv 2))) pss_nil)
      (pss_one (ps_asg (pe_dpop1 (pe_fld (pv 0) rfl) (pv 1) ⟨by rfl, by rfl, by rfl, by rfl⟩) (pg_sub (pe_fld (pv 0) rfl) (pv 2) (set_any hr.u1))))))))
theorem sc_House_content : FnScope ["self", "name"] ["self", "name"] (defScope s_House_content) := ⟨rfl, rfl, rfl, by decide +kernel, rfl, by decide +kernel, by decide +kernel⟩
theorem bd_House_content (T : Txt K mg) : Binds K (fdOf K (mA K "House" "content")) ["self", "name"] [] := T.F_House_content.bindsN fun _ _ _ _ _ _ us hl => match us, hl with | [_, _], _ => rfl
theorem ok_House_content (T : Txt K mg) (nd : NDX base) : FnX false P w K mg base (L2.CX P w) 4 (mA K "House" "content") (fdOf K (mA K "House" "content")) ["self", "name"] (sp_House_content K) := by
  refine okW T.F_House_content sc_House_content len_House_content (fun cdv A outer s H vs Q E hgu0 hr h tk pw => ⟨t_House_content K (WT E), ?_, pure_House_content T.c vs H Q E h⟩)
  exact (pss_cons (ps_expr (pe_callW (ok_wanted T nd) (fun z => nomatch z) hr rfl T.g_wanted T.F_wanted.kp (bd_wanted T) .nil (fun σ => passAt tk σ) (pa_cons pe_int (pa_cons (pe_callX (ok_is_name T nd) (fun z => nomatch z) (hr.mono (by decide)) rfl T.g_is_name T.F_is_name.kp (bd_is_name T) .nil pass0 (pa_cons (pv 1) pa_nil)) pa_nil))))
      (pss_cons (ps_expr (pe_methW (pv 0) T.cl_House T.me_House_need_file (ok_House_need_file T nd) (fun z => nomatch z) hr (bd_House_need_file T) .nil (fun σ => passAt tk σ) (pa_cons (pv 1) pa_nil)))
      (pss_one (ps_ret (pe_callTy cr_list (by rfl) T.b_list (by decide +kernel) (pa_cons (pe_ix (ix_dk hr.u1) (pe_fld (pv 0) rfl) (pv 1) (fun _ _ => rfl)) pa_nil))))))
theorem sc_l_call : FnScope ["_law_house", "_law_deed"] ["_law_house", "_law_deed"] (defScope s_l_call) := ⟨rfl, rfl, rfl, by decide +kernel, rfl, by decide +kernel, by decide +kernel⟩
theorem bd_l_call (T : Txt K mg) : Binds K (fdOf K (He.ga K "_law_call")) ["_law_house", "_law_deed"] [] := T.F_l_call.bindsN fun _ _ _ _ _ _ us hl => match us, hl with | [_, _], _ => rfl
theorem ok_l_call (T : Txt K mg) (nd : NDX base) : FnX false P w K mg base (L2.CX P w) 6 (He.ga K "_law_call") (fdOf K (He.ga K "_law_call")) ["_law_house", "_law_deed"] (sp_l_call K) := by
  refine okW T.F_l_call sc_l_call len_l_call (fun cdv A outer s H vs Q E hgu0 hr h tk pw => ⟨t_l_call K (WT E), ?_, pure_l_call T.c vs H Q E h⟩)
  exact (pss_cons (ps_if (pt_cmpR (uo_eq hr.units) (pe_ix ix_any (pv 1) pe_int (fun _ _ => rfl)) pe_str (nomark _)) (pss_one (ps_ret (pe_methW (pv 0) T.cl_House T.me_House_write (ok_House_write T nd) (fun z => nomatch z) hr (bd_House_write T) .nil (fun σ => passAt tk σ) (pa_cons (pe_ix ix_any (pv 1) pe_int (fun _ _ => rfl)) (pa_cons (pe_ix ix_any (pv 1) pe_int (fun _ _ => rfl)) pa_nil))))) pss_nil)
      (pss_cons (ps_if (pt_cmpR (uo_eq hr.units) (pe_ix ix_any (pv 1) pe_int (fun _ _ => rfl)) pe_str (nomark _)) (pss_one (ps_ret (pe_methW (pv 0) T.cl_House T.me_House_drop (ok_House_drop T nd) (fun z => nomatch z) (hr.mono (by decide)) (bd_House_drop T) .nil (fun σ => passAt tk σ) (pa_cons (pe_ix ix_any (pv 1) pe_int (fun _ _ => rfl)) pa_nil)))) pss_nil)
      (pss_cons (ps_if (pt_cmpR (uo_eq hr.units) (pe_ix ix_any (pv 1) pe_int (fun _ _ => rfl)) pe_str (nomark _)) (pss_one (ps_ret (pe_methW (pv 0) T.cl_House T.me_House_move (ok_House_move T nd) (fun z => nomatch z) (hr.mono (by decide)) (bd_House_move T) .nil (fun σ => passAt tk σ) (pa_cons (pe_ix ix_any (pv 1) pe_int (fun _ _ => rfl)) (pa_cons (pe_ix ix_any (pv 1) pe_int (fun _ _ => rfl)) pa_nil))))) pss_nil)
      (pss_cons (ps_if (pt_cmpR (uo_eq hr.units) (pe_ix ix_any (pv 1) pe_int (fun _ _ => rfl)) pe_str (nomark _)) (pss_one ps_never) pss_nil)
      (pss_one (ps_ret (pe_methW (pv 0) T.cl_House T.me_House_content (ok_House_content T nd) (fun z => nomatch z) (hr.mono (by decide)) (bd_House_content T) .nil (fun σ => passAt tk σ) (pa_cons (pe_ix ix_any (pv 1) pe_int (fun _ _ => rfl)) pa_nil))))))))
theorem sc_l_refused : FnScope ["_law_e"] ["_law_e"] (defScope s_l_refused) := ⟨rfl, rfl, rfl, by decide +kernel, rfl, by decide +kernel, by decide +kernel⟩
theorem bd_l_refused (T : Txt K mg) : Binds K (fdOf K (He.ga K "_law_refused")) ["_law_e"] [] := T.F_l_refused.bindsN fun _ _ _ _ _ _ us hl => match us, hl with | [_], _ => rfl
theorem ok_l_refused (T : Txt K mg) : FnE P w K mg base 1 (He.ga K "_law_refused") (fdOf K (He.ga K "_law_refused")) "_law_e" (sp_l_refused K) := by
  refine okE T.F_l_refused sc_l_refused (fun cdv A outer s H Q a oe cls d hr hz hf h => ⟨t_l_refused K a cls d, PSs.nox ?_, pure_l_refused T.c a cls d H Q h⟩)
  exact (pss_cons (ps_if (pt_val (pe_callB (cr_isX List.mem_cons_self hz hf) (by rfl) T.b_isinstance (by decide +kernel) (pa_cons (pv 0) (pa_cons (pe_glob rfl T.cg_NoFile rfl) pa_nil)))) (pss_one (ps_ret (pe_tup (pa_cons pe_str (pa_cons (pe_xg List.mem_cons_self hz hf (pv 0)) pa_nil))))) pss_nil)
      (pss_cons (ps_if (pt_val (pe_callB (cr_isX List.mem_cons_self hz hf) (by rfl) T.b_isinstance (by decide +kernel) (pa_cons (pv 0) (pa_cons (pe_glob rfl T.cg_There rfl) pa_nil)))) (pss_one (ps_ret (pe_tup (pa_cons pe_str (pa_cons (pe_xg List.mem_cons_self hz hf (pv 0)) pa_nil))))) pss_nil)
      (pss_cons (ps_if (pt_val (pe_callB (cr_isX List.mem_cons_self hz hf) (by rfl) T.b_isinstance (by decide +kernel) (pa_cons (pv 0) (pa_cons (pe_glob rfl T.cg_TooMany rfl) pa_nil)))) (pss_one (ps_ret (pe_tup (pa_cons pe_str (pa_cons (pe_xg List.mem_cons_self hz hf (pv 0)) pa_nil))))) pss_nil)
      (pss_one (ps_ret (pe_tup (pa_cons pe_str (pa_cons (pe_xg List.mem_cons_self hz hf (pv 0)) pa_nil))))))))
theorem sc_l_said : FnScope ["_law_house", "_law_deed", "_law_found", "_law_e"] ["_law_house", "_law_deed"] (defScope s_l_said) := ⟨rfl, rfl, rfl, by decide +kernel, rfl, by decide +kernel, by decide +kernel⟩
theorem bd_l_said (T : Txt K mg) : Binds K (fdOf K (He.ga K "_law_said")) ["_law_house", "_law_deed"] [] := T.F_l_said.bindsN fun _ _ _ _ _ _ us hl => match us, hl with | [_, _], _ => rfl
theorem ok_l_said (T : Txt K mg) (nd : NDX base) : FnX false P w K mg base CX0 7 (He.ga K "_law_said") (fdOf K (He.ga K "_law_said")) ["_law_house", "_law_deed"] (sp_l_said K) := by
  refine okX T.F_l_said sc_l_said len_l_said (fun cdv A outer s H vs Q E hgu0 hr h => ⟨t_l_said K, PSs.nox ?_, pure_l_said T.c vs H Q E h⟩)
  exact (pss_cons (ps_set (i := 2) sc_l_said.nd rfl (by first | exact Or.inl rfl | exact Or.inr rfl) pe_non)
      (pss_cons (ps_tryT rfl rfl sc_l_said.nd tk0 (fun W pn xe tk pw => by exact (pss_one (ps_set (i := 2) sc_l_said.nd rfl (by first | exact Or.inl rfl | exact Or.inr rfl) (pe_tup (pa_cons pe_str (pa_cons (pe_callW (ok_l_call T nd) (fun z => nomatch z) hr rfl T.g_l_call T.F_l_call.kp (bd_l_call T) .nil (fun σ => passAt tk σ) (pa_cons (pv 0) (pa_cons (pv 1) pa_nil))) pa_nil)))))) (HdOk.named (i := 3) (test2 ⟨rfl, by decide, .inl T.cg_StoreError⟩ ⟨rfl, by decide, .inl T.cg_Missing⟩) rfl rfl (fun a oe cls d pn hz hf => by exact (pss_one (ps_set (i := 2) sc_l_said.nd rfl (by first | exact Or.inl rfl | exact Or.inr rfl) (pe_callE (ok_l_refused T) List.mem_cons_self hz hf ((roomMark hr).mono (by decide)) rfl T.g_l_refused T.F_l_refused.kp (bd_l_refused T) (pv 3))))) HdOk.nil))
      (pss_one (ps_ret (pv 2)))))
theorem sc_l_step : FnScope ["_law_house", "_law_files", "_law_deed", "_law_due_here", "_law_turns", "_law_k"] ["_law_house", "_law_files", "_law_deed"] (defScope s_l_step) := ⟨rfl, rfl, rfl, by decide +kernel, rfl, by decide +kernel, by decide +kernel⟩
theorem bd_l_step (T : Txt K mg) : Binds K (fdOf K (He.ga K "_law_step")) ["_law_house", "_law_files", "_law_deed"] [] := T.F_l_step.bindsN fun _ _ _ _ _ _ us hl => match us, hl with | [_, _, _], _ => rfl
theorem ok_l_step (T : Txt K mg) (nd : NDX base) : FnX true P w K mg base CX0 8 (He.ga K "_law_step") (fdOf K (He.ga K "_law_step")) ["_law_house", "_law_files", "_law_deed"] (sp_l_step K) := by
  refine okX T.F_l_step sc_l_step len_l_step (fun cdv A outer s H vs Q E hgu0 hr h => ⟨t_l_step K, PSs.nox ?_, pure_l_step vs H Q E h⟩)
  have hgu : (A.deeper (envOfC "_law_step" (defScope s_l_step) s.heap.objs.size (He.ga K "_law_step") cdv)).guards = some [] := hgu0 rfl
  exact (pss_cons (ps_set (i := 3) sc_l_step.nd rfl (by first | exact Or.inl rfl | exact Or.inr rfl) (pe_callX (ok_l_due T nd) (fun z => nomatch z) (hr.mono (by decide)) rfl T.g_l_due T.F_l_due.kp (bd_l_due T) .nil pass0 (pa_cons (pv 1) (pa_cons (pv 2) pa_nil))))
      (pss_cons (ps_set (i := 4) sc_l_step.nd rfl (by first | exact Or.inl rfl | exact Or.inr rfl) (pe_op uo_add pe_int (pe_callTy cr_intB (by rfl) T.b_int (by decide +kernel) (pa_cons (pe_and (pe_cmpR op_notN' (pv 3) pe_non (nomark _)) (pe_one (pe_cmpR (uo_eq hr.units) (pe_op uo_mod (pe_callB cr_len (by rfl) T.b_len (by decide +kernel) (pa_cons (pe_ix ix_any (pv 2) pe_int (fun _ _ => rfl)) pa_nil)) pe_int) pe_int (nomark _)))) pa_nil))))
      (pss_cons (ps_if (pt_cmpR op_isN' (pv 3) pe_non (nomark _)) (pss_one (ps_set (i := 3) sc_l_step.nd rfl (by first | exact Or.inl rfl | exact Or.inr rfl) (pe_tup (pa_cons pe_str (pa_cons (pe_callX (ok_l_do T nd) (fun z => nomatch z) (hr.mono (by decide)) rfl T.g_l_do T.F_l_do.kp (bd_l_do T) .nil pass0 (pa_cons (pv 1) (pa_cons (pv 2) pa_nil))) pa_nil))))) pss_nil)
      (pss_one (ps_ret (pe_callB (cr_all rfl) (by rfl) T.b_all (by decide +kernel) (pa_cons (pe_lc (own := [("_law_k", 5)]) (g := (gName 5)) (tt := tYes) rfl sc_l_step.nd (pi_range1 (by rfl) T.b_range (pa_cons (pv 4) pa_nil)) (blkOk_by (own := [("_law_k", 5)]) (N := ["_law_house", "_law_files", "_law_deed", "_law_due_here", "_law_turns", "_law_k"]) (sc := defScope s_l_step) (by decide +kernel)) (fun _ _ _ _ _ => (pg_name (i := 5) sc_l_step.nd rfl (by first | exact Or.inl rfl | exact Or.inr rfl))) (fun _ _ _ _ _ => pts_nil) (fun _ _ _ _ _ => (pe_callX (ok_l_alike T nd) (fun _ => hgu) (hr.mono (by decide)) rfl T.g_l_alike T.F_l_alike.kp (bd_l_alike T) .nil pass0 (pa_cons (pe_callX (ok_l_said T nd) (fun z => nomatch z) hr rfl T.g_l_said T.F_l_said.kp (bd_l_said T) .nil pass0 (pa_cons (pv 0) (pa_cons (pv 2) pa_nil))) (pa_cons (pv 3) pa_nil))))) pa_nil)))))))
theorem sc_l_content : FnScope ["_law_bag_here", "_law_pick", "_law_long", "_law_k"] ["_law_bag_here"] (defScope s_l_content) := ⟨rfl, rfl, rfl, by decide +kernel, rfl, by decide +kernel, by decide +kernel⟩
theorem bd_l_content (T : Txt K mg) : Binds K (fdOf K (He.ga K "_law_content")) ["_law_bag_here"] [] := T.F_l_content.bindsN fun _ _ _ _ _ _ us hl => match us, hl with | [_], _ => rfl
theorem ok_l_content (T : Txt K mg) (nd : NDX base) : FnX false P w K mg base CX0 2 (He.ga K "_law_content") (fdOf K (He.ga K "_law_content")) ["_law_bag_here"] (sp_l_content K) := by
  refine okX T.F_l_content sc_l_content len_l_content (fun cdv A outer s H vs Q E hgu0 hr h => ⟨t_l_content K, PSs.nox ?_, pure_l_content vs H Q E h⟩)
  exact (pss_cons (ps_set (i := 1) sc_l_content.nd rfl (by first | exact Or.inl rfl | exact Or.inr rfl) (pe_callX (ok_l_take T nd) (fun z => nomatch z) hr rfl T.g_l_take T.F_l_take.kp (bd_l_take T) .nil pass0 (pa_cons (pv 0) (pa_cons pe_int pa_nil))))
      (pss_cons (ps_set (i := 2) sc_l_content.nd rfl (by first | exact Or.inl rfl | exact Or.inr rfl) (pe_ix ix_any (pe_lst (pa_cons (pe_callX (ok_l_take T nd) (fun z => nomatch z) hr rfl T.g_l_take T.F_l_take.kp (bd_l_take T) .nil pass0 (pa_cons (pv 0) (pa_cons pe_int pa_nil))) (pa_cons (pe_callX (ok_l_take T nd) (fun z => nomatch z) hr rfl T.g_l_take T.F_l_take.kp (bd_l_take T) .nil pass0 (pa_cons (pv 0) (pa_cons pe_int pa_nil))) (pa_cons (pe_callX (ok_l_take T nd) (fun z => nomatch z) hr rfl T.g_l_take T.F_l_take.kp (bd_l_take T) .nil pass0 (pa_cons (pv 0) (pa_cons pe_int pa_nil))) pa_nil)))) (pe_callX (ok_l_take T nd) (fun z => nomatch z) hr rfl T.g_l_take T.F_l_take.kp (bd_l_take T) .nil pass0 (pa_cons (pv 0) (pa_cons pe_int pa_nil))) (fun _ _ => rfl)))
      (pss_cons (ps_if (pt_cmpR (uo_eq hr.units) (pv 1) pe_int (nomark _)) (pss_one (ps_ret (pe_lc (own := [("_law_k", 3)]) (g := (gName 3)) (tt := tYes) rfl sc_l_content.nd (pi_range1 (by rfl) T.b_range (pa_cons (pv 2) pa_nil)) (blkOk_by (own := [("_law_k", 3)]) (N := ["_law_bag_here", "_law_pick", "_law_long", "_law_k"]) (sc := defScope s_l_content) (by decide +kernel)) (fun _ _ _ _ _ => (pg_name (i := 3) sc_l_content.nd rfl (by first | exact Or.inl rfl | exact Or.inr rfl))) (fun _ _ _ _ _ => pts_nil) (fun _ _ _ _ _ => (pe_ix ix_any (pe_lst (pa_cons pe_int (pa_cons pe_int (pa_cons pe_int pa_nil)))) (pe_callX (ok_l_take T nd) (fun z => nomatch z) hr rfl T.g_l_take T.F_l_take.kp (bd_l_take T) .nil pass0 (pa_cons (pv 0) (pa_cons pe_int pa_nil))) (fun _ _ => rfl)))))) pss_nil)
      (pss_cons (ps_if (pt_cmpR (uo_eq hr.units) (pv 1) pe_int (nomark _)) (pss_one (ps_ret (pe_lc (own := [("_law_k", 3)]) (g := (gName 3)) (tt := tYes) rfl sc_l_content.nd (pi_range1 (by rfl) T.b_range (pa_cons (pv 2) pa_nil)) (blkOk_by (own := [("_law_k", 3)]) (N := ["_law_bag_here", "_law_pick", "_law_long", "_law_k"]) (sc := defScope s_l_content) (by decide +kernel)) (fun _ _ _ _ _ => (pg_name (i := 3) sc_l_content.nd rfl (by first | exact Or.inl rfl | exact Or.inr rfl))) (fun _ _ _ _ _ => pts_nil) (fun _ _ _ _ _ => (pe_op uo_add pe_int (pe_op uo_mul pe_int (pe_callX (ok_l_take T nd) (fun z => nomatch z) hr rfl T.g_l_take T.F_l_take.kp (bd_l_take T) .nil pass0 (pa_cons (pv 0) (pa_cons pe_int pa_nil))))))))) pss_nil)
      (pss_cons (ps_if (pt_cmpR (uo_eq hr.units) (pv 1) pe_int (nomark _)) (pss_one (ps_ret (pe_lc (own := [("_law_k", 3)]) (g := (gName 3)) (tt := tYes) rfl sc_l_content.nd (pi_range1 (by rfl) T.b_range (pa_cons (pv 2) pa_nil)) (blkOk_by (own := [("_law_k", 3)]) (N := ["_law_bag_here", "_law_pick", "_law_long", "_law_k"]) (sc := defScope s_l_content) (by decide +kernel)) (fun _ _ _ _ _ => (pg_name (i := 3) sc_l_content.nd rfl (by first | exact Or.inl rfl | exact Or.inr rfl))) (fun _ _ _ _ _ => pts_nil) (fun _ _ _ _ _ => (pe_op uo_mul pe_int (pe_callX (ok_l_take T nd) (fun z => nomatch z) hr rfl T.g_l_take T.F_l_take.kp (bd_l_take T) .nil pass0 (pa_cons (pv 0) (pa_cons pe_int pa_nil)))))))) pss_nil)
      (pss_cons (ps_if (pt_cmpR (uo_eq hr.units) (pv 1) pe_int (nomark _)) (pss_one (ps_ret (pe_lc (own := [("_law_k", 3)]) (g := (gName 3)) (tt := tYes) rfl sc_l_content.nd (pi_range1 (by rfl) T.b_range (pa_cons (pv 2) pa_nil)) (blkOk_by (own := [("_law_k", 3)]) (N := ["_law_bag_here", "_law_pick", "_law_long", "_law_k"]) (sc := defScope s_l_content) (by decide +kernel)) (fun _ _ _ _ _ => (pg_name (i := 3) sc_l_content.nd rfl (by first | exact Or.inl rfl | exact Or.inr rfl))) (fun _ _ _ _ _ => pts_nil) (fun _ _ _ _ _ => (pe_ix ix_any (pe_lst (pa_cons pe_int (pa_cons pe_int pa_nil))) (pe_callX (ok_l_take T nd) (fun z => nomatch z) hr rfl T.g_l_take T.F_l_take.kp (bd_l_take T) .nil pass0 (pa_cons (pv 0) (pa_cons pe_int pa_nil))) (fun _ _ => rfl)))))) pss_nil)
      (pss_one (ps_ret (pe_lc (own := [("_law_k", 3)]) (g := (gName 3)) (tt := tYes) rfl sc_l_content.nd (pi_range1 (by rfl) T.b_range (pa_cons (pv 2) pa_nil)) (blkOk_by (own := [("_law_k", 3)]) (N := ["_law_bag_here", "_law_pick", "_law_long", "_law_k"]) (sc := defScope s_l_content) (by decide +kernel)) (fun _ _ _ _ _ => (pg_name (i := 3) sc_l_content.nd rfl (by first | exact Or.inl rfl | exact Or.inr rfl))) (fun _ _ _ _ _ => pts_nil) (fun _ _ _ _ _ => (pe_callX (ok_l_take T nd) (fun z => nomatch z) hr rfl T.g_l_take T.F_l_take.kp (bd_l_take T) .nil pass0 (pa_cons (pv 0) (pa_cons pe_int pa_nil)))))))))))))
theorem sc_l_any : FnScope ["_law_bag_here", "_law_some"] ["_law_bag_here", "_law_some"] (defScope s_l_any) := ⟨rfl, rfl, rfl, by decide +kernel, rfl, by decide +kernel, by decide +kernel⟩
theorem bd_l_any (T : Txt K mg) : Binds K (fdOf K (He.ga K "_law_any")) ["_law_bag_here", "_law_some"] [] := T.F_l_any.bindsN fun _ _ _ _ _ _ us hl => match us, hl with | [_, _], _ => rfl
theorem ok_l_any (T : Txt K mg) (nd : NDX base) : FnX false P w K mg base CX0 2 (He.ga K "_law_any") (fdOf K (He.ga K "_law_any")) ["_law_bag_here", "_law_some"] (sp_l_any K) := by
  refine okX T.F_l_any sc_l_any len_l_any (fun cdv A outer s H vs Q E hgu0 hr h => ⟨t_l_any K, PSs.nox ?_, pure_l_any vs H Q E h⟩)
  exact (pss_one (ps_ret (pe_ix ix_any (pv 1) (pe_callX (ok_l_take T nd) (fun z => nomatch z) hr rfl T.g_l_take T.F_l_take.kp (bd_l_take T) .nil pass0 (pa_cons (pv 0) (pa_cons (pe_callB cr_len (by rfl) T.b_len (by decide +kernel) (pa_cons (pv 1) pa_nil)) pa_nil))) (fun _ _ => rfl))))
theorem sc_l_kinds : FnScope ["_law_house", "_law_deed", "_law_e"] ["_law_house", "_law_deed"] (defScope s_l_kinds) := ⟨rfl, rfl, rfl, by decide +kernel, rfl, by decide +kernel, by decide +kernel⟩
theorem bd_l_kinds (T : Txt K mg) : Binds K (fdOf K (He.ga K "_law_kinds")) ["_law_house", "_law_deed"] [] := T.F_l_kinds.bindsN fun _ _ _ _ _ _ us hl => match us, hl with | [_, _], _ => rfl
theorem ok_l_kinds (T : Txt K mg) (nd : NDX base) : FnX false P w K mg base CX0 7 (He.ga K "_law_kinds") (fdOf K (He.ga K "_law_kinds")) ["_law_house", "_law_deed"] (sp_l_kinds K) := by
  refine okX T.F_l_kinds sc_l_kinds len_l_kinds (fun cdv A outer s H vs Q E hgu0 hr h => ⟨t_l_kinds K, PSs.nox ?_, pure_l_kinds T.c vs H Q E h⟩)
  exact (pss_cons (ps_tryT rfl rfl sc_l_kinds.nd tk0 (fun W pn xe tk pw => by exact (pss_one (ps_expr (pe_callW (ok_l_call T nd) (fun z => nomatch z) hr rfl T.g_l_call T.F_l_call.kp (bd_l_call T) .nil (fun σ => passAt tk σ) (pa_cons (pv 0) (pa_cons (pv 1) pa_nil)))))) (HdOk.named (i := 2) (test1 ⟨rfl, by decide, .inl T.cg_NoFile⟩) rfl rfl (fun a oe cls d pn hz hf => by exact (pss_one (ps_ret (pe_and (pe_callB (cr_isX List.mem_cons_self hz hf) (by rfl) T.b_isinstance (by decide +kernel) (pa_cons (pv 2) (pa_cons (pe_bltn (by rfl) T.b_LookupError (by decide +kernel) rfl) pa_nil))) (pe_one (pe_not (pe_callB (cr_isX List.mem_cons_self hz hf) (by rfl) T.b_isinstance (by decide +kernel) (pa_cons (pv 2) (pa_cons (pe_tup (pa_cons (pe_glob rfl T.cg_There rfl) (pa_cons (pe_glob rfl T.cg_TooMany rfl) (pa_cons (pe_glob rfl T.cg_Wrong rfl) pa_nil)))) pa_nil))))))))) (HdOk.named (i := 2) (test1 ⟨rfl, by decide, .inl T.cg_There⟩) rfl rfl (fun a oe cls d pn hz hf => by exact (pss_one (ps_ret (pe_and (pe_callB (cr_isX List.mem_cons_self hz hf) (by rfl) T.b_isinstance (by decide +kernel) (pa_cons (pv 2) (pa_cons (pe_bltn (by rfl) T.b_ValueError (by decide +kernel) rfl) pa_nil))) (pe_one (pe_not (pe_callB (cr_isX List.mem_cons_self hz hf) (by rfl) T.b_isinstance (by decide +kernel) (pa_cons (pv 2) (pa_cons (pe_tup (pa_cons (pe_glob rfl T.cg_NoFile rfl) (pa_cons (pe_glob rfl T.cg_TooMany rfl) (pa_cons (pe_glob rfl T.cg_Wrong rfl) pa_nil)))) pa_nil))))))))) (HdOk.named (i := 2) (test1 ⟨rfl, by decide, .inl T.cg_TooMany⟩) rfl rfl (fun a oe cls d pn hz hf => by exact (pss_one (ps_ret (pe_and (pe_callB (cr_isX List.mem_cons_self hz hf) (by rfl) T.b_isinstance (by decide +kernel) (pa_cons (pv 2) (pa_cons (pe_bltn (by rfl) T.b_ValueError (by decide +kernel) rfl) pa_nil))) (pe_one (pe_not (pe_callB (cr_isX List.mem_cons_self hz hf) (by rfl) T.b_isinstance (by decide +kernel) (pa_cons (pv 2) (pa_cons (pe_tup (pa_cons (pe_glob rfl T.cg_NoFile rfl) (pa_cons (pe_glob rfl T.cg_There rfl) (pa_cons (pe_glob rfl T.cg_Wrong rfl) pa_nil)))) pa_nil))))))))) HdOk.nil))))
      (pss_one (ps_ret pe_bl)))
theorem sc_House_names_of : FnScope ["self"] ["self"] (defScope s_House_names_of) := ⟨rfl, rfl, rfl, by decide +kernel, rfl, by decide +kernel, by decide +kernel⟩
theorem bd_House_names_of (T : Txt K mg) : Binds K (fdOf K (mA K "House" "names_of")) ["self"] [] := T.F_House_names_of.bindsN fun _ _ _ _ _ _ us hl => match us, hl with | [_], _ => rfl
theorem ok_House_names_of (T : Txt K mg) (nd : NDX base) : FnX false P w K mg base CX0 1 (mA K "House" "names_of") (fdOf K (mA K "House" "names_of")) ["self"] (sp_House_names_of K) := by
  refine okX T.F_House_names_of sc_House_names_of len_House_names_of (fun cdv A outer s H vs Q E hgu0 hr h => ⟨t_House_names_of K, PSs.nox ?_, pure_House_names_of T.c vs H Q E h⟩)
  exact (pss_one (ps_ret (pe_callB (cr_sortedDS rfl) (by rfl) T.b_sorted (by decide +kernel) (pa_cons (pe_fld (pv 0) rfl) pa_nil))))
theorem sc_House_contents : FnScope ["self", "name"] ["self"] (defScope s_House_contents) := ⟨rfl, rfl, rfl, by decide +kernel, rfl, by decide +kernel, by decide +kernel⟩
theorem bd_House_contents (T : Txt K mg) : Binds K (fdOf K (mA K "House" "contents")) ["self"] [] := T.F_House_contents.bindsN fun _ _ _ _ _ _ us hl => match us, hl with | [_], _ => rfl
theorem ok_House_contents (T : Txt K mg) (nd : NDX base) : FnX false P w K mg base CX0 1 (mA K "House" "contents") (fdOf K (mA K "House" "contents")) ["self"] (sp_House_contents K) := by
  refine okX T.F_House_contents sc_House_contents len_House_contents (fun cdv A outer s H vs Q E hgu0 hr h => ⟨t_House_contents K, PSs.nox ?_, pure_House_contents T.c vs H Q E h⟩)
  exact (pss_one (ps_ret (pe_dc (own := [("name", 1)]) (g := (gName 1)) (tt := tYes) rfl sc_House_contents.nd (pi_list (pe_callB (cr_sortedDS rfl) (by rfl) T.b_sorted (by decide +kernel) (pa_cons (pe_fld (pv 0) rfl) pa_nil))) (blkOk_by (own := [("name", 1)]) (N := ["self", "name"]) (sc := defScope s_House_contents) (by decide +kernel)) (fun _ _ _ _ _ => (pg_name (i := 1) sc_House_contents.nd rfl (by first | exact Or.inl rfl | exact Or.inr rfl))) (fun _ _ _ _ _ => pts_nil) (fun _ _ _ _ _ => (pv 1)) (fun _ _ _ _ _ => (pe_callTy cr_list (by rfl) T.b_list (by decide +kernel) (pa_cons (pe_ix (ix_dk hr.u1) (pe_fld (pv 0) rfl) (pv 1) (fun _ _ => rfl)) pa_nil))))))
theorem sc_House___len__ : FnScope ["self"] ["self"] (defScope s_House___len__) := ⟨rfl, rfl, rfl, by decide +kernel, rfl, by decide +kernel, by decide +kernel⟩
theorem bd_House___len__ (T : Txt K mg) : Binds K (fdOf K (mA K "House" "__len__")) ["self"] [] := T.F_House___len__.bindsN fun _ _ _ _ _ _ us hl => match us, hl with | [_], _ => rfl
theorem ok_House___len__ (T : Txt K mg) (nd : NDX base) : FnX false P w K mg base CX0 1 (mA K "House" "__len__") (fdOf K (mA K "House" "__len__")) ["self"] (sp_House___len__ K) := by
  refine okX T.F_House___len__ sc_House___len__ len_House___len__ (fun cdv A outer s H vs Q E hgu0 hr h => ⟨t_House___len__ K, PSs.nox ?_, pure_House___len__ T.c vs H Q E h⟩)
  exact (pss_one (ps_ret (pe_callB cr_len (by rfl) T.b_len (by decide +kernel) (pa_cons (pe_fld (pv 0) rfl) pa_nil))))
theorem sc_l_same : FnScope ["_law_house", "_law_files", "_law_told", "_law_due_here", "_law_name"] ["_law_house", "_law_files"] (defScope s_l_same) := ⟨rfl, rfl, rfl, by decide +kernel, rfl, by decide +kernel, by decide +kernel⟩
theorem bd_l_same (T : Txt K mg) : Binds K (fdOf K (He.ga K "_law_same")) ["_law_house", "_law_files"] [] := T.F_l_same.bindsN fun _ _ _ _ _ _ us hl => match us, hl with | [_, _], _ => rfl
theorem ok_l_same (T : Txt K mg) (nd : NDX base) : FnX true P w K mg base CX0 3 (He.ga K "_law_same") (fdOf K (He.ga K "_law_same")) ["_law_house", "_law_files"] (sp_l_same K) := by
  refine okX T.F_l_same sc_l_same len_l_same (fun cdv A outer s H vs Q E hgu0 hr h => ⟨t_l_same K, PSs.nox ?_, pure_l_same T.c vs H Q E h⟩)
  have hgu : (A.deeper (envOfC "_law_same" (defScope s_l_same) s.heap.objs.size (He.ga K "_law_same") cdv)).guards = some [] := hgu0 rfl
  exact (pss_cons (ps_set (i := 2) sc_l_same.nd rfl (by first | exact Or.inl rfl | exact Or.inr rfl) (pe_lst (pa_cons (pe_methW0 (pv 0) T.cl_House T.me_House_names_of (ok_House_names_of T nd) (fun z => nomatch z) (hr.mono (by decide)) (bd_House_names_of T) .nil (fun _ => pas0)) (pa_cons (pe_methW0 (pv 0) T.cl_House T.me_House_contents (ok_House_contents T nd) (fun z => nomatch z) (hr.mono (by decide)) (bd_House_contents T) .nil (fun _ => pas0)) (pa_cons (pe_callB (cr_lenI T.me_House___len__ (ok_House___len__ T nd) hr (bd_House___len__ T)) (by rfl) T.b_len (by decide +kernel) (pa_cons (pv 0) pa_nil)) pa_nil)))))
      (pss_cons (ps_set (i := 3) sc_l_same.nd rfl (by first | exact Or.inl rfl | exact Or.inr rfl) (pe_lst (pa_cons (pe_callB (cr_sortedDS rfl) (by rfl) T.b_sorted (by decide +kernel) (pa_cons (pv 1) pa_nil)) (pa_cons (pe_callTy (cr_dictP rfl) (by rfl) T.b_dict (by decide +kernel) (pa_cons (pe_lc (own := [("_law_name", 4)]) (g := (gName 4)) (tt := tYes) rfl sc_l_same.nd (pi_list (pe_callB (cr_sortedDS rfl) (by rfl) T.b_sorted (by decide +kernel) (pa_cons (pv 1) pa_nil))) (blkOk_by (own := [("_law_name", 4)]) (N := ["_law_house", "_law_files", "_law_told", "_law_due_here", "_law_name"]) (sc := defScope s_l_same) (by decide +kernel)) (fun _ _ _ _ _ => (pg_name (i := 4) sc_l_same.nd rfl (by first | exact Or.inl rfl | exact Or.inr rfl))) (fun _ _ _ _ _ => pts_nil) (fun _ _ _ _ _ => (pe_tup (pa_cons (pv 4) (pa_cons (pe_ix (ix_dk hr.u1) (pv 1) (pv 4) (fun _ _ => rfl)) pa_nil))))) pa_nil)) (pa_cons (pe_callB cr_len (by rfl) T.b_len (by decide +kernel) (pa_cons (pv 1) pa_nil)) pa_nil)))))
      (pss_one (ps_ret (pe_callX (ok_l_alike T nd) (fun _ => hgu) (hr.mono (by decide)) rfl T.g_l_alike T.F_l_alike.kp (bd_l_alike T) .nil pass0 (pa_cons (pv 2) (pa_cons (pv 3) pa_nil)))))))
theorem sc_law : FnScope ["_law_script", "_law_bag_here", "_law_names_here", "_law_house", "_law_files", "_law_name", "_law_k", "_law_word", "_law_deed", "_law_refused_here"] ["_law_script"] (defScope s_law) := ⟨rfl, rfl, rfl, by decide +kernel, rfl, by decide +kernel, by decide +kernel⟩
theorem bd_law (T : Txt K mg) : Binds K (fdOf K (He.ga K "law")) ["_law_script"] [] := T.F_law.bindsN fun _ _ _ _ _ _ us hl => match us, hl with | [_], _ => rfl
theorem ok_law (T : Txt K mg) (nd : NDX base) : FnX true P w K mg base CX0 9 (He.ga K "law") (fdOf K (He.ga K "law")) ["_law_script"] (sp_law K) := by
  refine okX T.F_law sc_law len_law (fun cdv A outer s H vs Q E hgu0 hr h => ⟨t_law K, PSs.nox ?_, pure_law T.c vs H Q E h⟩)
  have hgu : (A.deeper (envOfC "law" (defScope s_law) s.heap.objs.size (He.ga K "law") cdv)).guards = some [] := hgu0 rfl
  exact (pss_cons (ps_set (i := 1) sc_law.nd rfl (by first | exact Or.inl rfl | exact Or.inr rfl) (pe_callX (ok_l_bag T nd) (fun z => nomatch z) (hr.mono (by decide)) rfl T.g_l_bag T.F_l_bag.kp (bd_l_bag T) .nil pass0 (pa_cons (pv 0) pa_nil)))
      (pss_cons (ps_set (i := 2) sc_law.nd rfl (by first | exact Or.inl rfl | exact Or.inr rfl) (pe_callX (ok_l_names T nd) (fun z => nomatch z) (hr.mono (by decide)) rfl T.g_l_names T.F_l_names.kp (bd_l_names T) .nil pass0 (pa_cons (pv 1) (pa_cons pe_int pa_nil))))
      (pss_cons (ps_set (i := 3) sc_law.nd rfl (by first | exact Or.inl rfl | exact Or.inr rfl) (pe_makeW0 T.mk_House (ok_House___init__ T nd) (hr.mono (by decide)) rfl T.cg_House (bd_House___init__ T) .nil (fun _ => pas0)))
      (pss_cons (ps_set (i := 4) sc_law.nd rfl (by first | exact Or.inl rfl | exact Or.inr rfl) pe_dnewK)
      (pss_cons (ps_for PassesOwn.never rfl (pi_list (pe_slice sl_any (pv 2) po_none (po_some (pe_callX (ok_l_take T nd) (fun z => nomatch z) (hr.mono (by decide)) rfl T.g_l_take T.F_l_take.kp (bd_l_take T) .nil pass0 (pa_cons (pv 1) (pa_cons pe_int pa_nil)))))) (pg_name (i := 5) sc_law.nd rfl (by first | exact Or.inl rfl | exact Or.inr rfl)) (pss_one (ps_if (pt_not (pt_val (pe_callX (ok_l_step T nd) (fun _ => hgu) hr rfl T.g_l_step T.F_l_step.kp (bd_l_step T) .nil pass0 (pa_cons (pv 3) (pa_cons (pv 4) (pa_cons (pe_tup (pa_cons pe_str (pa_cons (pv 5) (pa_cons (pe_callX (ok_l_content T nd) (fun z => nomatch z) (hr.mono (by decide)) rfl T.g_l_content T.F_l_content.kp (bd_l_content T) .nil pass0 (pa_cons (pv 1) pa_nil)) pa_nil)))) pa_nil)))))) (pss_one (ps_ret pe_bl)) pss_nil)))
      (pss_cons (ps_for PassesOwn.never rfl (pi_range1 (by rfl) T.b_range (pa_cons pe_int pa_nil)) (pg_name (i := 6) sc_law.nd rfl (by first | exact Or.inl rfl | exact Or.inr rfl)) (pss_cons (ps_set (i := 7) sc_law.nd rfl (by first | exact Or.inl rfl | exact Or.inr rfl) (pe_callX (ok_l_any T nd) (fun z => nomatch z) (hr.mono (by decide)) rfl T.g_l_any T.F_l_any.kp (bd_l_any T) .nil pass0 (pa_cons (pv 1) (pa_cons (pe_lst (pa_cons pe_str (pa_cons pe_str (pa_cons pe_str (pa_cons pe_str (pa_cons pe_str pa_nil)))))) pa_nil))))
      (pss_cons (ps_set (i := 8) sc_law.nd rfl (by first | exact Or.inl rfl | exact Or.inr rfl) (pe_tup (pa_cons (pv 7) (pa_cons (pe_callX (ok_l_any T nd) (fun z => nomatch z) (hr.mono (by decide)) rfl T.g_l_any T.F_l_any.kp (bd_l_any T) .nil pass0 (pa_cons (pv 1) (pa_cons (pv 2) pa_nil))) pa_nil))))
      (pss_cons (ps_if (pt_cmpR (uo_eq hr.units) (pv 7) pe_str (nomark _)) (pss_one (ps_set (i := 8) sc_law.nd rfl (by first | exact Or.inl rfl | exact Or.inr rfl) (pe_op op_catA (pv 8) (pe_tup (pa_cons (pe_callX (ok_l_content T nd) (fun z => nomatch z) (hr.mono (by decide)) rfl T.g_l_content T.F_l_content.kp (bd_l_content T) .nil pass0 (pa_cons (pv 1) pa_nil)) pa_nil))))) pss_nil)
      (pss_cons (ps_if (pt_cmpR (uo_eq hr.units) (pv 7) pe_str (nomark _)) (pss_one (ps_set (i := 8) sc_law.nd rfl (by first | exact Or.inl rfl | exact Or.inr rfl) (pe_op op_catA (pv 8) (pe_tup (pa_cons (pe_callX (ok_l_any T nd) (fun z => nomatch z) (hr.mono (by decide)) rfl T.g_l_any T.F_l_any.kp (bd_l_any T) .nil pass0 (pa_cons (pv 1) (pa_cons (pv 2) pa_nil))) pa_nil))))) pss_nil)
      (pss_cons (ps_set (i := 9) sc_law.nd rfl (by first | exact Or.inl rfl | exact Or.inr rfl) (pe_cmpR op_notN' (pe_callX (ok_l_due T nd) (fun z => nomatch z) (hr.mono (by decide)) rfl T.g_l_due T.F_l_due.kp (bd_l_due T) .nil pass0 (pa_cons (pv 4) (pa_cons (pv 8) pa_nil))) pe_non (nomark _)))
      (pss_cons (ps_if (PW.pt (pw_and (pt_val (pv 9)) (pw_and1 (pt_not (pt_val (pe_callX (ok_l_kinds T nd) (fun z => nomatch z) (hr.mono (by decide)) rfl T.g_l_kinds T.F_l_kinds.kp (bd_l_kinds T) .nil pass0 (pa_cons (pv 3) (pa_cons (pv 8) pa_nil)))))))) (pss_one (ps_ret pe_bl)) pss_nil)
      (pss_cons (ps_if (PW.pt (pw_and (pt_val (pv 9)) (pw_and1 (pt_not (pt_val (pe_callX (ok_l_same T nd) (fun _ => hgu) (hr.mono (by decide)) rfl T.g_l_same T.F_l_same.kp (bd_l_same T) .nil pass0 (pa_cons (pv 3) (pa_cons (pv 4) pa_nil)))))))) (pss_one (ps_ret pe_bl)) pss_nil)
      (pss_cons (ps_if (PW.pt (pw_and (pt_val (pv 9)) (pw_and1 (pt_not (pt_val (pe_callX (ok_l_step T nd) (fun _ => hgu) hr rfl T.g_l_step T.F_l_step.kp (bd_l_step T) .nil pass0 (pa_cons (pv 3) (pa_cons (pv 4) (pa_cons (pv 8) pa_nil))))))))) (pss_one (ps_ret pe_bl)) pss_nil)
      (pss_one (ps_if (PW.pt (pw_and (pt_not (pt_val (pv 9))) (pw_and (pt_cmpR uo_gt (pe_callX (ok_l_take T nd) (fun z => nomatch z) (hr.mono (by decide)) rfl T.g_l_take T.F_l_take.kp (bd_l_take T) .nil pass0 (pa_cons (pv 1) (pa_cons pe_int pa_nil))) pe_int (nomark _)) (pw_and1 (pt_not (pt_val (pe_callX (ok_l_step T nd) (fun _ => hgu) hr rfl T.g_l_step T.F_l_step.kp (bd_l_step T) .nil pass0 (pa_cons (pv 3) (pa_cons (pv 4) (pa_cons (pv 8) pa_nil)))))))))) (pss_one (ps_ret pe_bl)) pss_nil)))))))))))
      (pss_one (ps_ret (pe_callX (ok_l_same T nd) (fun _ => hgu) (hr.mono (by decide)) rfl T.g_l_same T.F_l_same.kp (bd_l_same T) .nil pass0 (pa_cons (pv 3) (pa_cons (pv 4) pa_nil)))))))))))
end
def d_l_bag : He.DefD := ⟨("_law_bag", none), "_law_bag", "_law_bag", defArgs s_l_bag, defBody s_l_bag, defScope s_l_bag, [], []⟩
def d_l_take : He.DefD := ⟨("_law_take", none), "_law_take", "_law_take", defArgs s_l_take, defBody s_l_take, defScope s_l_take, [], []⟩
def d_l_names : He.DefD := ⟨("_law_names", none), "_law_names", "_law_names", defArgs s_l_names, defBody s_l_names, defScope s_l_names, [], []⟩
def d_House___init__ : He.DefD := ⟨("House", some "__init__"), "__init__", "House.__init__", defArgs s_House___init__, defBody s_House___init__, defScope s_House___init__, [], []⟩
def d_l_due : He.DefD := ⟨("_law_due", none), "_law_due", "_law_due", defArgs s_l_due, defBody s_l_due, defScope s_l_due, [], []⟩
def d_l_do : He.DefD := ⟨("_law_do", none), "_law_do", "_law_do", defArgs s_l_do, defBody s_l_do, defScope s_l_do, [], []⟩
def d_l_alike : He.DefD := ⟨("_law_alike", none), "_law_alike", "_law_alike", defArgs s_l_alike, defBody s_l_alike, defScope s_l_alike, [], []⟩
def d_wanted : He.DefD := ⟨("wanted", none), "wanted", "wanted", defArgs s_wanted, defBody s_wanted, defScope s_wanted, [], []⟩
def d_is_name : He.DefD := ⟨("is_name", none), "is_name", "is_name", defArgs s_is_name, defBody s_is_name, defScope s_is_name, [], []⟩
def d_is_whole : He.DefD := ⟨("is_whole", none), "is_whole", "is_whole", defArgs s_is_whole, defBody s_is_whole, defScope s_is_whole, [], []⟩
def d_is_sign : He.DefD := ⟨("is_sign", none), "is_sign", "is_sign", defArgs s_is_sign, defBody s_is_sign, defScope s_is_sign, [], []⟩
def d_are_signs : He.DefD := ⟨("are_signs", none), "are_signs", "are_signs", defArgs s_are_signs, defBody s_are_signs, defScope s_are_signs, [], []⟩
def d_is_content : He.DefD := ⟨("is_content", none), "is_content", "is_content", defArgs s_is_content, defBody s_is_content, defScope s_is_content, [], []⟩
def d_House_write : He.DefD := ⟨("House", some "write"), "write", "House.write", defArgs s_House_write, defBody s_House_write, defScope s_House_write, [], []⟩
def d_House_need_file : He.DefD := ⟨("House", some "need_file"), "need_file", "House.need_file", defArgs s_House_need_file, defBody s_House_need_file, defScope s_House_need_file, [], []⟩
def d_House_drop : He.DefD := ⟨("House", some "drop"), "drop", "House.drop", defArgs s_House_drop, defBody s_House_drop, defScope s_House_drop, [], []⟩
def d_House_move : He.DefD := ⟨("House", some "move"), "move", "House.move", defArgs s_House_move, defBody s_House_move, defScope s_House_move, [], []⟩
def d_House_content : He.DefD := ⟨("House", some "content"), "content", "House.content", defArgs s_House_content, defBody s_House_content, defScope s_House_content, [], []⟩
def d_l_call : He.DefD := ⟨("_law_call", none), "_law_call", "_law_call", defArgs s_l_call, defBody s_l_call, defScope s_l_call, [], []⟩
def d_l_refused : He.DefD := ⟨("_law_refused", none), "_law_refused", "_law_refused", defArgs s_l_refused, defBody s_l_refused, defScope s_l_refused, [], []⟩
def d_l_said : He.DefD := ⟨("_law_said", none), "_law_said", "_law_said", defArgs s_l_said, defBody s_l_said, defScope s_l_said, [], []⟩
def d_l_step : He.DefD := ⟨("_law_step", none), "_law_step", "_law_step", defArgs s_l_step, defBody s_l_step, defScope s_l_step, [], []⟩
def d_l_content : He.DefD := ⟨("_law_content", none), "_law_content", "_law_content", defArgs s_l_content, defBody s_l_content, defScope s_l_content, [], []⟩
def d_l_any : He.DefD := ⟨("_law_any", none), "_law_any", "_law_any", defArgs s_l_any, defBody s_l_any, defScope s_l_any, [], []⟩
def d_l_kinds : He.DefD := ⟨("_law_kinds", none), "_law_kinds", "_law_kinds", defArgs s_l_kinds, defBody s_l_kinds, defScope s_l_kinds, [], []⟩
def d_House_names_of : He.DefD := ⟨("House", some "names_of"), "names_of", "House.names_of", defArgs s_House_names_of, defBody s_House_names_of, defScope s_House_names_of, [], []⟩
def d_House_contents : He.DefD := ⟨("House", some "contents"), "contents", "House.contents", defArgs s_House_contents, defBody s_House_contents, defScope s_House_contents, [], []⟩
def d_House___len__ : He.DefD := ⟨("House", some "__len__"), "__len__", "House.__len__", defArgs s_House___len__, defBody s_House___len__, defScope s_House___len__, [], []⟩
def d_l_same : He.DefD := ⟨("_law_same", none), "_law_same", "_law_same", defArgs s_l_same, defBody s_l_same, defScope s_l_same, [], []⟩
def d_law : He.DefD := ⟨("law", none), "law", "law", defArgs s_law, defBody s_law, defScope s_law, [], []⟩
def d_Wrong___init__ : He.DefD := ⟨("Wrong", some "__init__"), "__init__", "Wrong.__init__", defArgs s_Wrong___init__, defBody s_Wrong___init__, defScope s_Wrong___init__, [], []⟩
def d_TooMany___init__ : He.DefD := ⟨("TooMany", some "__init__"), "__init__", "TooMany.__init__", defArgs s_TooMany___init__, defBody s_TooMany___init__, defScope s_TooMany___init__, [], []⟩
def d_NoFile___init__ : He.DefD := ⟨("NoFile", some "__init__"), "__init__", "NoFile.__init__", defArgs s_NoFile___init__, defBody s_NoFile___init__, defScope s_NoFile___init__, [], []⟩
def d_There___init__ : He.DefD := ⟨("There", some "__init__"), "__init__", "There.__init__", defArgs s_There___init__, defBody s_There___init__, defScope s_There___init__, [], []⟩
def fn : List He.DefD := ([d_l_bag, d_l_take, d_l_names, d_House___init__, d_l_due, d_l_do, d_l_alike, d_wanted, d_is_name, d_is_whole, d_is_sign, d_are_signs, d_is_content, d_House_write, d_House_need_file, d_House_drop, d_House_move, d_House_content, d_l_call, d_l_refused, d_l_said, d_l_step, d_l_content, d_l_any, d_l_kinds, d_House_names_of, d_House_contents, d_House___len__, d_l_same, d_law] : List He.DefD) ++ ([d_Wrong___init__, d_TooMany___init__, d_NoFile___init__, d_There___init__] : List He.DefD)
def fa : List (PySem.W.Frag → Bool) := ([(fun K => (He.Fa.str "LETTERS" "abcdefghijklmnopqrstuvwxyz").ok K), (fun K => (He.Fa.int "LONGEST" 8).ok K), (fun K => (He.Fa.int "MOST_SIGN" 999).ok K), (fun K => (He.Fa.int "MOST_CONTENT" 48).ok K), (fun K => (He.Fa.int "MOST_KEPT" 8).ok K), (fun K => (He.Fa.glo "_law_bag").ok K), (fun K => (He.Fa.glo "_law_take").ok K), (fun K => (He.Fa.glo "_law_names").ok K), (fun K => (He.Fa.glo "_law_due").ok K), (fun K => (He.Fa.glo "_law_do").ok K), (fun K => (He.Fa.glo "_law_alike").ok K), (fun K => (He.Fa.glo "wanted").ok K), (fun K => (He.Fa.glo "is_name").ok K), (fun K => (He.Fa.glo "is_whole").ok K), (fun K => (He.Fa.glo "is_sign").ok K), (fun K => (He.Fa.glo "are_signs").ok K), (fun K => (He.Fa.glo "is_content").ok K), (fun K => (He.Fa.glo "_law_call").ok K), (fun K => (He.Fa.glo "_law_refused").ok K), (fun K => (He.Fa.glo "_law_said").ok K), (fun K => (He.Fa.glo "_law_step").ok K), (fun K => (He.Fa.glo "_law_content").ok K), (fun K => (He.Fa.glo "_law_any").ok K), (fun K => (He.Fa.glo "_law_kinds").ok K), (fun K => (He.Fa.glo "_law_same").ok K), (fun K => (He.Fa.glo "law").ok K), (fun K => (He.Fa.glo "Wrong").ok K), (fun K => (He.Fa.glo "TooMany").ok K), (fun K => (He.Fa.glo "NoFile").ok K), (fun K => (He.Fa.glo "There").ok K)] : List (PySem.W.Frag → Bool)) ++ ([(fun K => (He.Fa.glo "StoreError").ok K), (fun K => (He.Fa.glo "Missing").ok K), (fun K => (He.Fa.glo "House").ok K), (fun K => (He.Fa.cls "House").ok K), (fun K => (He.Fa.mkr "House").ok K), (fun K => (He.Fa.noat "House" "signs_by").ok K), (fun K => (He.Fa.meth "House" "write").ok K), (fun K => (He.Fa.meth "House" "need_file").ok K), (fun K => (He.Fa.meth "House" "drop").ok K), (fun K => (He.Fa.meth "House" "move").ok K), (fun K => (He.Fa.meth "House" "content").ok K), (fun K => (He.Fa.meth "House" "names_of").ok K), (fun K => (He.Fa.meth "House" "contents").ok K), (fun K => (He.Fa.meth "House" "__len__").ok K), (fun K => chB K "Wrong" (tlB "ValueError") "ValueError.__new__"), (fun K => chF K "Wrong"), (fun K => chC K "Wrong"), (fun K => chN K "Wrong" "at"), (fun K => chI K "StoreError" "ValueError.__init__"), (fun K => chM K "Wrong" "StoreError" true), (fun K => chM K "Wrong" "Missing" false), (fun K => chM K "Wrong" "NoFile" false), (fun K => chM K "Wrong" "There" false), (fun K => chM K "Wrong" "TooMany" false), (fun K => chK K "Wrong" "NoFile" false), (fun K => chK K "Wrong" "There" false), (fun K => chK K "Wrong" "TooMany" false), (fun K => chT K "Wrong" "LookupError" false), (fun K => chT K "Wrong" "ValueError" true), (fun K => chK K "Wrong" "Wrong" true)] : List (PySem.W.Frag → Bool)) ++ ([(fun K => chB K "TooMany" (tlB "ValueError") "ValueError.__new__"), (fun K => chF K "TooMany"), (fun K => chC K "TooMany"), (fun K => chN K "TooMany" "most"), (fun K => chM K "TooMany" "StoreError" true), (fun K => chM K "TooMany" "Missing" false), (fun K => chM K "TooMany" "NoFile" false), (fun K => chM K "TooMany" "There" false), (fun K => chM K "TooMany" "TooMany" true), (fun K => chK K "TooMany" "NoFile" false), (fun K => chK K "TooMany" "There" false), (fun K => chK K "TooMany" "TooMany" true), (fun K => chT K "TooMany" "LookupError" false), (fun K => chT K "TooMany" "ValueError" true), (fun K => chK K "TooMany" "Wrong" false), (fun K => chB K "NoFile" (tlB "LookupError") "LookupError.__new__"), (fun K => chF K "NoFile"), (fun K => chC K "NoFile"), (fun K => chN K "NoFile" "name"), (fun K => chI K "Missing" "LookupError.__init__"), (fun K => chM K "NoFile" "StoreError" false), (fun K => chM K "NoFile" "Missing" true), (fun K => chM K "NoFile" "NoFile" true), (fun K => chM K "NoFile" "There" false), (fun K => chM K "NoFile" "TooMany" false), (fun K => chK K "NoFile" "NoFile" true), (fun K => chK K "NoFile" "There" false), (fun K => chK K "NoFile" "TooMany" false), (fun K => chT K "NoFile" "LookupError" true), (fun K => chT K "NoFile" "ValueError" false)] : List (PySem.W.Frag → Bool)) ++ ([(fun K => chK K "NoFile" "Wrong" false), (fun K => chB K "There" (tlB "ValueError") "ValueError.__new__"), (fun K => chF K "There"), (fun K => chC K "There"), (fun K => chN K "There" "thing"), (fun K => chM K "There" "StoreError" true), (fun K => chM K "There" "Missing" false), (fun K => chM K "There" "NoFile" false), (fun K => chM K "There" "There" true), (fun K => chM K "There" "TooMany" false), (fun K => chK K "There" "NoFile" false), (fun K => chK K "There" "There" true), (fun K => chK K "There" "TooMany" false), (fun K => chT K "There" "LookupError" false), (fun K => chT K "There" "ValueError" true), (fun K => chK K "There" "Wrong" false), (fun K => (He.Fa.free "abs").ok K), (fun K => (He.Fa.free "len").ok K), (fun K => (He.Fa.free "range").ok K), (fun K => (He.Fa.free "list").ok K), (fun K => (He.Fa.free "repr").ok K), (fun K => (He.Fa.free "isinstance").ok K), (fun K => (He.Fa.free "str").ok K), (fun K => (He.Fa.free "int").ok K), (fun K => (He.Fa.free "bool").ok K), (fun K => (He.Fa.free "all").ok K), (fun K => (He.Fa.free "LookupError").ok K), (fun K => (He.Fa.free "ValueError").ok K), (fun K => (He.Fa.free "sorted").ok K), (fun K => (He.Fa.free "dict").ok K)] : List (PySem.W.Frag → Bool))
def names : List Str := (["_wall", "StoreError", "Missing", "Wrong", "There", "TooMany", "NoFile", "MOST_SIGN", "MOST_CONTENT", "LONGEST", "LETTERS", "is_whole", "is_sign", "are_signs", "is_content", "is_name", "MOST_KEPT", "wanted", "are_contents", "House", "_law_bag", "_law_take", "_law_alike", "_law_any", "_law_names", "_law_content", "_law_refused", "_law_due", "_law_do", "_law_call"] : List Str) ++ (["_law_said", "_law_same", "_law_step", "_law_kinds"] : List Str)
abbrev R : PySem.W.OpenRow := PySem.W.OpenLaw.row PySem.Challenge.rw_restorechain_k32_house_refused
abbrev hk : PySem.W.Hook := hookF 5 fa fn
def ob (s : PySem.W.SharedT) : He.AlD := obsFG 5 fa fn (HandSHeadRun.getT s)
theorem ob_eq (s : PySem.W.SharedT) : ob s = hk.obs s.abs := obsFG_eq (HandSHeadRun.getT_eq s)
theorem run (w : World) : HandSHeadRun.RunEq R (PySem.W.view R.prog [38]) hk ob 4000 names w := by
  intro os
  kernel_rfl
theorem txt {K : PySem.W.Frag} {h : Heap} {mg : Str → Option Value} (X : K.In h) (G : h.Ns mainGlobals mg) (c : SaysF fa fn K) : Txt K mg where
  F_l_bag := fd_of (c.def_ 0 (d := d_l_bag) rfl)
  F_l_take := fd_of (c.def_ 1 (d := d_l_take) rfl)
  F_l_names := fd_of (c.def_ 2 (d := d_l_names) rfl)
  F_House___init__ := fd_of (c.def_ 3 (d := d_House___init__) rfl)
  F_l_due := fd_of (c.def_ 4 (d := d_l_due) rfl)
  F_l_do := fd_of (c.def_ 5 (d := d_l_do) rfl)
  F_l_alike := fd_of (c.def_ 6 (d := d_l_alike) rfl)
  F_wanted := fd_of (c.def_ 7 (d := d_wanted) rfl)
  F_is_name := fd_of (c.def_ 8 (d := d_is_name) rfl)
  F_is_whole := fd_of (c.def_ 9 (d := d_is_whole) rfl)
  F_is_sign := fd_of (c.def_ 10 (d := d_is_sign) rfl)
  F_are_signs := fd_of (c.def_ 11 (d := d_are_signs) rfl)
  F_is_content := fd_of (c.def_ 12 (d := d_is_content) rfl)
  F_House_write := fd_of (c.def_ 13 (d := d_House_write) rfl)
  F_House_need_file := fd_of (c.def_ 14 (d := d_House_need_file) rfl)
  F_House_drop := fd_of (c.def_ 15 (d := d_House_drop) rfl)
  F_House_move := fd_of (c.def_ 16 (d := d_House_move) rfl)
  F_House_content := fd_of (c.def_ 17 (d := d_House_content) rfl)
  F_l_call := fd_of (c.def_ 18 (d := d_l_call) rfl)
  F_l_refused := fd_of (c.def_ 19 (d := d_l_refused) rfl)
  F_l_said := fd_of (c.def_ 20 (d := d_l_said) rfl)
  F_l_step := fd_of (c.def_ 21 (d := d_l_step) rfl)
  F_l_content := fd_of (c.def_ 22 (d := d_l_content) rfl)
  F_l_any := fd_of (c.def_ 23 (d := d_l_any) rfl)
  F_l_kinds := fd_of (c.def_ 24 (d := d_l_kinds) rfl)
  F_House_names_of := fd_of (c.def_ 25 (d := d_House_names_of) rfl)
  F_House_contents := fd_of (c.def_ 26 (d := d_House_contents) rfl)
  F_House___len__ := fd_of (c.def_ 27 (d := d_House___len__) rfl)
  F_l_same := fd_of (c.def_ 28 (d := d_l_same) rfl)
  F_law := fd_of (c.def_ 29 (d := d_law) rfl)
  F_Wrong___init__ := fd_of (c.def_ 30 (d := d_Wrong___init__) rfl)
  F_TooMany___init__ := fd_of (c.def_ 31 (d := d_TooMany___init__) rfl)
  F_NoFile___init__ := fd_of (c.def_ 32 (d := d_NoFile___init__) rfl)
  F_There___init__ := fd_of (c.def_ 33 (d := d_There___init__) rfl)
  c_LETTERS := He.str_ok X G (c.fact 0 (f := (fun K => (He.Fa.str "LETTERS" "abcdefghijklmnopqrstuvwxyz").ok K)) rfl)
  c_LONGEST := He.int_ok X G (c.fact 1 (f := (fun K => (He.Fa.int "LONGEST" 8).ok K)) rfl)
  c_MOST_SIGN := He.int_ok X G (c.fact 2 (f := (fun K => (He.Fa.int "MOST_SIGN" 999).ok K)) rfl)
  c_MOST_CONTENT := He.int_ok X G (c.fact 3 (f := (fun K => (He.Fa.int "MOST_CONTENT" 48).ok K)) rfl)
  c_MOST_KEPT := He.int_ok X G (c.fact 4 (f := (fun K => (He.Fa.int "MOST_KEPT" 8).ok K)) rfl)
  g_l_bag := He.glo_ok X G (c.fact 5 (f := (fun K => (He.Fa.glo "_law_bag").ok K)) rfl)
  g_l_take := He.glo_ok X G (c.fact 6 (f := (fun K => (He.Fa.glo "_law_take").ok K)) rfl)
  g_l_names := He.glo_ok X G (c.fact 7 (f := (fun K => (He.Fa.glo "_law_names").ok K)) rfl)
  g_l_due := He.glo_ok X G (c.fact 8 (f := (fun K => (He.Fa.glo "_law_due").ok K)) rfl)
  g_l_do := He.glo_ok X G (c.fact 9 (f := (fun K => (He.Fa.glo "_law_do").ok K)) rfl)
  g_l_alike := He.glo_ok X G (c.fact 10 (f := (fun K => (He.Fa.glo "_law_alike").ok K)) rfl)
  g_wanted := He.glo_ok X G (c.fact 11 (f := (fun K => (He.Fa.glo "wanted").ok K)) rfl)
  g_is_name := He.glo_ok X G (c.fact 12 (f := (fun K => (He.Fa.glo "is_name").ok K)) rfl)
  g_is_whole := He.glo_ok X G (c.fact 13 (f := (fun K => (He.Fa.glo "is_whole").ok K)) rfl)
  g_is_sign := He.glo_ok X G (c.fact 14 (f := (fun K => (He.Fa.glo "is_sign").ok K)) rfl)
  g_are_signs := He.glo_ok X G (c.fact 15 (f := (fun K => (He.Fa.glo "are_signs").ok K)) rfl)
  g_is_content := He.glo_ok X G (c.fact 16 (f := (fun K => (He.Fa.glo "is_content").ok K)) rfl)
  g_l_call := He.glo_ok X G (c.fact 17 (f := (fun K => (He.Fa.glo "_law_call").ok K)) rfl)
  g_l_refused := He.glo_ok X G (c.fact 18 (f := (fun K => (He.Fa.glo "_law_refused").ok K)) rfl)
  g_l_said := He.glo_ok X G (c.fact 19 (f := (fun K => (He.Fa.glo "_law_said").ok K)) rfl)
  g_l_step := He.glo_ok X G (c.fact 20 (f := (fun K => (He.Fa.glo "_law_step").ok K)) rfl)
  g_l_content := He.glo_ok X G (c.fact 21 (f := (fun K => (He.Fa.glo "_law_content").ok K)) rfl)
  g_l_any := He.glo_ok X G (c.fact 22 (f := (fun K => (He.Fa.glo "_law_any").ok K)) rfl)
  g_l_kinds := He.glo_ok X G (c.fact 23 (f := (fun K => (He.Fa.glo "_law_kinds").ok K)) rfl)
  g_l_same := He.glo_ok X G (c.fact 24 (f := (fun K => (He.Fa.glo "_law_same").ok K)) rfl)
  g_law := He.glo_ok X G (c.fact 25 (f := (fun K => (He.Fa.glo "law").ok K)) rfl)
  cg_Wrong := He.glo_ok X G (c.fact 26 (f := (fun K => (He.Fa.glo "Wrong").ok K)) rfl)
  cg_TooMany := He.glo_ok X G (c.fact 27 (f := (fun K => (He.Fa.glo "TooMany").ok K)) rfl)
  cg_NoFile := He.glo_ok X G (c.fact 28 (f := (fun K => (He.Fa.glo "NoFile").ok K)) rfl)
  cg_There := He.glo_ok X G (c.fact 29 (f := (fun K => (He.Fa.glo "There").ok K)) rfl)
  cg_StoreError := He.glo_ok X G (c.fact 30 (f := (fun K => (He.Fa.glo "StoreError").ok K)) rfl)
  cg_Missing := He.glo_ok X G (c.fact 31 (f := (fun K => (He.Fa.glo "Missing").ok K)) rfl)
  cg_House := He.glo_ok X G (c.fact 32 (f := (fun K => (He.Fa.glo "House").ok K)) rfl)
  cl_House := He.cls_ok (c.fact 33 (f := (fun K => (He.Fa.cls "House").ok K)) rfl)
  mk_House := He.mkr_ok (c.fact 34 (f := (fun K => (He.Fa.mkr "House").ok K)) rfl)
  na_House_signs_by := He.noat_ok (c.fact 35 (f := (fun K => (He.Fa.noat "House" "signs_by").ok K)) rfl)
  me_House_write := He.meth_ok (c.fact 36 (f := (fun K => (He.Fa.meth "House" "write").ok K)) rfl)
  me_House_need_file := He.meth_ok (c.fact 37 (f := (fun K => (He.Fa.meth "House" "need_file").ok K)) rfl)
  me_House_drop := He.meth_ok (c.fact 38 (f := (fun K => (He.Fa.meth "House" "drop").ok K)) rfl)
  me_House_move := He.meth_ok (c.fact 39 (f := (fun K => (He.Fa.meth "House" "move").ok K)) rfl)
  me_House_content := He.meth_ok (c.fact 40 (f := (fun K => (He.Fa.meth "House" "content").ok K)) rfl)
  me_House_names_of := He.meth_ok (c.fact 41 (f := (fun K => (He.Fa.meth "House" "names_of").ok K)) rfl)
  me_House_contents := He.meth_ok (c.fact 42 (f := (fun K => (He.Fa.meth "House" "contents").ok K)) rfl)
  me_House___len__ := He.meth_ok (c.fact 43 (f := (fun K => (He.Fa.meth "House" "__len__").ok K)) rfl)
  xb_Wrong := chB_VE (c.fact 44 (f := (fun K => chB K "Wrong" (tlB "ValueError") "ValueError.__new__")) rfl)
  xf_Wrong := chF_ok (c.fact 45 (f := (fun K => chF K "Wrong")) rfl)
  xc_Wrong := chC_ok (c.fact 46 (f := (fun K => chC K "Wrong")) rfl)
  xn_Wrong_at := id (c.fact 47 (f := (fun K => chN K "Wrong" "at")) rfl)
  xi_StoreError := chI_ok (c.fact 48 (f := (fun K => chI K "StoreError" "ValueError.__init__")) rfl)
  xm_Wrong_StoreError := chM_ok (c.fact 49 (f := (fun K => chM K "Wrong" "StoreError" true)) rfl)
  xm_Wrong_Missing := chM_ok (c.fact 50 (f := (fun K => chM K "Wrong" "Missing" false)) rfl)
  xm_Wrong_NoFile := chM_ok (c.fact 51 (f := (fun K => chM K "Wrong" "NoFile" false)) rfl)
  xm_Wrong_There := chM_ok (c.fact 52 (f := (fun K => chM K "Wrong" "There" false)) rfl)
  xm_Wrong_TooMany := chM_ok (c.fact 53 (f := (fun K => chM K "Wrong" "TooMany" false)) rfl)
  xk_Wrong_NoFile := chK_ok (c.fact 54 (f := (fun K => chK K "Wrong" "NoFile" false)) rfl)
  xk_Wrong_There := chK_ok (c.fact 55 (f := (fun K => chK K "Wrong" "There" false)) rfl)
  xk_Wrong_TooMany := chK_ok (c.fact 56 (f := (fun K => chK K "Wrong" "TooMany" false)) rfl)
  xk_Wrong_LookupError := chT_ok (c.fact 57 (f := (fun K => chT K "Wrong" "LookupError" false)) rfl)
  xk_Wrong_ValueError := chT_ok (c.fact 58 (f := (fun K => chT K "Wrong" "ValueError" true)) rfl)
  xk_Wrong_Wrong := chK_ok (c.fact 59 (f := (fun K => chK K "Wrong" "Wrong" true)) rfl)
  xb_TooMany := chB_VE (c.fact 60 (f := (fun K => chB K "TooMany" (tlB "ValueError") "ValueError.__new__")) rfl)
  xf_TooMany := chF_ok (c.fact 61 (f := (fun K => chF K "TooMany")) rfl)
  xc_TooMany := chC_ok (c.fact 62 (f := (fun K => chC K "TooMany")) rfl)
  xn_TooMany_most := id (c.fact 63 (f := (fun K => chN K "TooMany" "most")) rfl)
  xm_TooMany_StoreError := chM_ok (c.fact 64 (f := (fun K => chM K "TooMany" "StoreError" true)) rfl)
  xm_TooMany_Missing := chM_ok (c.fact 65 (f := (fun K => chM K "TooMany" "Missing" false)) rfl)
  xm_TooMany_NoFile := chM_ok (c.fact 66 (f := (fun K => chM K "TooMany" "NoFile" false)) rfl)
  xm_TooMany_There := chM_ok (c.fact 67 (f := (fun K => chM K "TooMany" "There" false)) rfl)
  xm_TooMany_TooMany := chM_ok (c.fact 68 (f := (fun K => chM K "TooMany" "TooMany" true)) rfl)
  xk_TooMany_NoFile := chK_ok (c.fact 69 (f := (fun K => chK K "TooMany" "NoFile" false)) rfl)
  xk_TooMany_There := chK_ok (c.fact 70 (f := (fun K => chK K "TooMany" "There" false)) rfl)
  xk_TooMany_TooMany := chK_ok (c.fact 71 (f := (fun K => chK K "TooMany" "TooMany" true)) rfl)
  xk_TooMany_LookupError := chT_ok (c.fact 72 (f := (fun K => chT K "TooMany" "LookupError" false)) rfl)
  xk_TooMany_ValueError := chT_ok (c.fact 73 (f := (fun K => chT K "TooMany" "ValueError" true)) rfl)
  xk_TooMany_Wrong := chK_ok (c.fact 74 (f := (fun K => chK K "TooMany" "Wrong" false)) rfl)
  xb_NoFile := chB_LE (c.fact 75 (f := (fun K => chB K "NoFile" (tlB "LookupError") "LookupError.__new__")) rfl)
  xf_NoFile := chF_ok (c.fact 76 (f := (fun K => chF K "NoFile")) rfl)
  xc_NoFile := chC_ok (c.fact 77 (f := (fun K => chC K "NoFile")) rfl)
  xn_NoFile_name := id (c.fact 78 (f := (fun K => chN K "NoFile" "name")) rfl)
  xi_Missing := chI_ok (c.fact 79 (f := (fun K => chI K "Missing" "LookupError.__init__")) rfl)
  xm_NoFile_StoreError := chM_ok (c.fact 80 (f := (fun K => chM K "NoFile" "StoreError" false)) rfl)
  xm_NoFile_Missing := chM_ok (c.fact 81 (f := (fun K => chM K "NoFile" "Missing" true)) rfl)
  xm_NoFile_NoFile := chM_ok (c.fact 82 (f := (fun K => chM K "NoFile" "NoFile" true)) rfl)
  xm_NoFile_There := chM_ok (c.fact 83 (f := (fun K => chM K "NoFile" "There" false)) rfl)
  xm_NoFile_TooMany := chM_ok (c.fact 84 (f := (fun K => chM K "NoFile" "TooMany" false)) rfl)
  xk_NoFile_NoFile := chK_ok (c.fact 85 (f := (fun K => chK K "NoFile" "NoFile" true)) rfl)
  xk_NoFile_There := chK_ok (c.fact 86 (f := (fun K => chK K "NoFile" "There" false)) rfl)
  xk_NoFile_TooMany := chK_ok (c.fact 87 (f := (fun K => chK K "NoFile" "TooMany" false)) rfl)
  xk_NoFile_LookupError := chT_ok (c.fact 88 (f := (fun K => chT K "NoFile" "LookupError" true)) rfl)
  xk_NoFile_ValueError := chT_ok (c.fact 89 (f := (fun K => chT K "NoFile" "ValueError" false)) rfl)
  xk_NoFile_Wrong := chK_ok (c.fact 90 (f := (fun K => chK K "NoFile" "Wrong" false)) rfl)
  xb_There := chB_VE (c.fact 91 (f := (fun K => chB K "There" (tlB "ValueError") "ValueError.__new__")) rfl)
  xf_There := chF_ok (c.fact 92 (f := (fun K => chF K "There")) rfl)
  xc_There := chC_ok (c.fact 93 (f := (fun K => chC K "There")) rfl)
  xn_There_thing := id (c.fact 94 (f := (fun K => chN K "There" "thing")) rfl)
  xm_There_StoreError := chM_ok (c.fact 95 (f := (fun K => chM K "There" "StoreError" true)) rfl)
  xm_There_Missing := chM_ok (c.fact 96 (f := (fun K => chM K "There" "Missing" false)) rfl)
  xm_There_NoFile := chM_ok (c.fact 97 (f := (fun K => chM K "There" "NoFile" false)) rfl)
  xm_There_There := chM_ok (c.fact 98 (f := (fun K => chM K "There" "There" true)) rfl)
  xm_There_TooMany := chM_ok (c.fact 99 (f := (fun K => chM K "There" "TooMany" false)) rfl)
  xk_There_NoFile := chK_ok (c.fact 100 (f := (fun K => chK K "There" "NoFile" false)) rfl)
  xk_There_There := chK_ok (c.fact 101 (f := (fun K => chK K "There" "There" true)) rfl)
  xk_There_TooMany := chK_ok (c.fact 102 (f := (fun K => chK K "There" "TooMany" false)) rfl)
  xk_There_LookupError := chT_ok (c.fact 103 (f := (fun K => chT K "There" "LookupError" false)) rfl)
  xk_There_ValueError := chT_ok (c.fact 104 (f := (fun K => chT K "There" "ValueError" true)) rfl)
  xk_There_Wrong := chK_ok (c.fact 105 (f := (fun K => chK K "There" "Wrong" false)) rfl)
  b_abs := He.free_ok X G (c.fact 106 (f := (fun K => (He.Fa.free "abs").ok K)) rfl)
  b_len := He.free_ok X G (c.fact 107 (f := (fun K => (He.Fa.free "len").ok K)) rfl)
  b_range := He.free_ok X G (c.fact 108 (f := (fun K => (He.Fa.free "range").ok K)) rfl)
  b_list := He.free_ok X G (c.fact 109 (f := (fun K => (He.Fa.free "list").ok K)) rfl)
  b_repr := He.free_ok X G (c.fact 110 (f := (fun K => (He.Fa.free "repr").ok K)) rfl)
  b_isinstance := He.free_ok X G (c.fact 111 (f := (fun K => (He.Fa.free "isinstance").ok K)) rfl)
  b_str := He.free_ok X G (c.fact 112 (f := (fun K => (He.Fa.free "str").ok K)) rfl)
  b_int := He.free_ok X G (c.fact 113 (f := (fun K => (He.Fa.free "int").ok K)) rfl)
  b_bool := He.free_ok X G (c.fact 114 (f := (fun K => (He.Fa.free "bool").ok K)) rfl)
  b_all := He.free_ok X G (c.fact 115 (f := (fun K => (He.Fa.free "all").ok K)) rfl)
  b_LookupError := He.free_ok X G (c.fact 116 (f := (fun K => (He.Fa.free "LookupError").ok K)) rfl)
  b_ValueError := He.free_ok X G (c.fact 117 (f := (fun K => (He.Fa.free "ValueError").ok K)) rfl)
  b_sorted := He.free_ok X G (c.fact 118 (f := (fun K => (He.Fa.free "sorted").ok K)) rfl)
  b_dict := He.free_ok X G (c.fact 119 (f := (fun K => (He.Fa.free "dict").ok K)) rfl)
end RC
open PySem PySem.W PySem.Calls PyProof.Rows
set_option maxRecDepth 100000 in
set_option maxHeartbeats 0 in
theorem PySem.Challenge.cw_restorechain_k32_house_refused_holds : PySem.Challenge.rw_restorechain_k32_house_refused.Holds := by
  w_on; o_law
  refine HandSHeadRun.head_any (r := OpenLaw.row PySem.Challenge.rw_restorechain_k32_house_refused) (q := view (OpenLaw.row PySem.Challenge.rw_restorechain_k32_house_refused).prog [38]) (H := RC.hk) (ob := RC.ob) (M := 4000) (loose := RC.names)
    (d := HandSHeadRun.topDef (OpenLaw.row PySem.Challenge.rw_restorechain_k32_house_refused).prog 38) (kwd := []) RC.ob_eq (by kernel_rfl) (fun s => by kernel_rfl) RC.run
    (by kernel_rfl) (by kernel_rfl) (by kernel_rfl) (by rfl) (by first | assumption | decide +kernel) (by decide +kernel) ⟨rfl, rfl, rfl, rfl, rfl, by decide +kernel⟩ ?hw ?hc
  case hw => w_witness2
  case hc =>
    refine RC.walk_S (hi := by kernel_rfl) (l := PySem.Challenge.rw_restorechain_k32_house_refused) (n := 63) (k := 9) (x := "_law_script") (CX := fun _ => L2.CX0) rfl (by decide) (by kernel_rfl) ⟨rfl, by decide, by decide⟩ ?F (fun _ _ _ _ _ z => z)
    intro w mg fa h Y G hmg0
    obtain ⟨K, KX, c⟩ := Y
    have hmg : mg ("law" : PySem.Str) = some (.ref fa) := by
      have e : (HandSHeadRun.topDef (OpenLaw.row PySem.Challenge.rw_restorechain_k32_house_refused).prog 38).name = ("law" : PySem.Str) := by kernel_rfl
      rw [← e]
      exact hmg0
    have T := RC.txt KX G c
    have e := hmg.symm.trans T.g_law
    cases e
    exact ⟨K, _, RC.sp_law K, KX, fun s v => L2.FunD.bindsA (ps := ["_law_script"]) T.F_law (fun _ _ _ _ _ _ us hl => match us, hl with | [_], _ => rfl) s [v] rfl,
      RC.law_start K, fun base _ _ nd => RC.ok_law T nd⟩
