import PyProof.Rows.All
import Wide.All
import OpenK.AllK
import Wide.FinOn
import KE.KStateDown
import HandS.ForMost
import HandS.More
import HandS.Walk
import HandS.Wide
import HandS.IsInst
import HandS.RaiseMore
import HandS.Style
import HandS.Deep
import HandS.MakeKwOnly
import HandS.WordsExc
import HandS.Defaults
import HandS.Head0
import HandS.Head1
import HandS.Head2
import HandS.HeadEnd
import HandS.HeadHook1
import HandS.HeadHook2
import HandS.Codes
import HandS.WideMore
import KE.KIntText
import HandS.ExcInit
import HandS.ExcField
import HandS.ExcIs
import HandS.ExcOwn
import HandS.TryMany
import HandS.HotCalls
import HandS.Flow
import KE.KTryMore
import KE.KExcInit
import KE.KExcIs
import PyProof.Conv_int_bool
import PySem.Challenge.RW_restorechain_k23_harmed_and_healed
set_option Elab.async false
set_option linter.all false
set_option maxRecDepth 100000
set_option maxHeartbeats 4000000
namespace RC
open PySem PySem.Spec PyProof.Rows L2
/-! ### resources -/
abbrev Cell := Addr × HO
def Ext (F F' : Hp) : Prop := ∀ a o, F a = some o → F' a = some o
theorem Ext.refl (F : Hp) : Ext F F := fun _ _ h => h
theorem Ext.trans {F G H : Hp} (a : Ext F G) (b : Ext G H) : Ext F H := fun x o h => b x o (a x o h)
theorem Ext.new {H : Hp} {p : Addr} {o : HO} (h : H p = none) : Ext H (upd H p o) := fun a u e => by
  rw [upd_ne (ne_of_none e h)]
  exact e
theorem Ext.rd {H H' : Hp} {a : Addr} {u : HO} (e : Ext H H') (h : Rd H a u) : Rd H' a u := by
  rcases h with h | ⟨o, h⟩
  · exact Or.inl (e a _ h)
  · exact Or.inr ⟨o, e a _ h⟩
theorem Ext.sqL {K : PySem.W.Frag} {H H' : Hp} {a : Addr} {xs : List V} (e : Ext H H') (h : SqL K H a xs) : SqL K H' a xs := by
  rcases h with h | h
  · exact Or.inl (e.rd h)
  · exact Or.inr h
theorem Ext.sqT {K : PySem.W.Frag} {H H' : Hp} {a : Addr} {xs : List V} (e : Ext H H') (h : SqT K H a xs) : SqT K H' a xs := by
  rcases h with h | h
  · exact Or.inl (e.rd h)
  · exact Or.inr h
mutual
theorem Dp_ext {K : PySem.W.Frag} {H H' : Hp} (e : Ext H H') : ∀ {v : V} {d : PyData}, Dp K H v d → Dp K H' v d
  | _, _, .non => .non
  | _, _, .bl b => .bl b
  | _, _, .int i => .int i
  | _, _, .str x => .str x
  | _, _, .lst h ds => .lst (e.sqL h) (DpAll_ext e ds)
  | _, _, .tup h ds => .tup (e.sqT h) (DpAll_ext e ds)
theorem DpAll_ext {K : PySem.W.Frag} {H H' : Hp} (e : Ext H H') : ∀ {vs : List V} {ds : List PyData}, DpAll K H vs ds → DpAll K H' vs ds
  | _, _, .nil => .nil
  | _, _, .cons h r => .cons (Dp_ext e h) (DpAll_ext e r)
end
structure Res where
  on : Hp → List Cell → Prop
  mono : ∀ F F' l, Ext F F' → on F l → on F' l
/-- the object o stands at p, owned -/
def pt (p : Addr) (o : HO) : Res := ⟨fun _ l => l = [(p, o)], fun _ _ _ _ h => h⟩
/-- the object o stands at p for ever -/
def fz (p : Addr) (o : HO) : Res := ⟨fun F l => l = [] ∧ F p = some o, fun _ _ _ e h => ⟨h.1, e _ _ h.2⟩⟩
/-- v is the data d for ever -/
def dt (K : PySem.W.Frag) (v : V) (d : PyData) : Res := ⟨fun F l => l = [] ∧ Dp K F v d, fun _ _ _ e h => ⟨h.1, Dp_ext e h.2⟩⟩
def sp2 (R S : Res) : Res := ⟨fun F l => ∃ l1 l2, l = l1 ++ l2 ∧ R.on F l1 ∧ S.on F l2, fun _ _ _ e ⟨l1, l2, h, a, b⟩ => ⟨l1, l2, h, R.mono _ _ _ e a, S.mono _ _ _ e b⟩⟩
def exi {α : Type} (R : α → Res) : Res := ⟨fun F l => ∃ x, (R x).on F l, fun _ _ _ e ⟨x, h⟩ => ⟨x, (R x).mono _ _ _ e h⟩⟩
def prp (φ : Prop) (R : Res) : Res := ⟨fun F l => φ ∧ R.on F l, fun _ _ _ e h => ⟨h.1, R.mono _ _ _ e h.2⟩⟩
def Sat (F : Hp) : List Res → List Cell → Prop
  | [], l => l = []
  | R :: Rs, l => ∃ l1 l2, l = l1 ++ l2 ∧ R.on F l1 ∧ Sat F Rs l2
theorem Sat.mono {F F' : Hp} (e : Ext F F') : ∀ {Rs : List Res} {l : List Cell}, Sat F Rs l → Sat F' Rs l
  | [], _, h => h
  | R :: _, _, ⟨l1, l2, h, a, b⟩ => ⟨l1, l2, h, R.mono _ _ _ e a, Sat.mono e b⟩
theorem Sat.perm {F : Hp} {Rs Rs' : List Res} (p : Rs.Perm Rs') : ∀ {l : List Cell}, Sat F Rs l → ∃ l', l.Perm l' ∧ Sat F Rs' l' := by
  induction p with
  | nil => exact fun h => ⟨_, .refl _, h⟩
  | cons R _ ih =>
    rintro l ⟨l1, l2, rfl, a, b⟩
    obtain ⟨l3, q, c⟩ := ih b
    exact ⟨l1 ++ l3, .append_left _ q, l1, l3, rfl, a, c⟩
  | swap R S Rs =>
    rintro l ⟨l1, l2, rfl, a, l3, l4, rfl, b, c⟩
    refine ⟨l3 ++ (l1 ++ l4), ?_, l3, l1 ++ l4, rfl, b, l1, l4, rfl, a, c⟩
    rw [← List.append_assoc, ← List.append_assoc]
    exact List.Perm.append_right _ List.perm_append_comm
  | trans _ _ ih1 ih2 =>
    intro l h
    obtain ⟨l1, p1, h1⟩ := ih1 h
    obtain ⟨l2, p2, h2⟩ := ih2 h1
    exact ⟨l2, p1.trans p2, h2⟩
structure MemC (F : Hp) (L : List Cell) (H : Hp) : Prop where
  ex : Ext F H
  own : ∀ c ∈ L, H c.1 = some c.2 ∧ F c.1 = none
  nd : (L.map (·.1)).Nodup
theorem MemC.perm {F : Hp} {L L' : List Cell} {H : Hp} (h : MemC F L H) (p : L.Perm L') : MemC F L' H :=
  ⟨h.ex, fun c hc => h.own c (p.mem_iff.mpr hc), (p.map _).nodup_iff.mp h.nd⟩
/-- THE STATE: the resources hold, apart from one another -/
def M (Rs : List Res) (H : Hp) : Prop := ∃ F L, Sat F Rs L ∧ MemC F L H
section
variable {Rs Rs' : List Res} {R S : Res} {H : Hp} {p : Addr} {o o' : HO}
theorem M.perm (h : M Rs H) (q : Rs.Perm Rs') : M Rs' H := by
  obtain ⟨F, L, a, b⟩ := h
  obtain ⟨L', q', a'⟩ := a.perm q
  exact ⟨F, L', a', b.perm q'⟩
theorem M.nil : M [] H := ⟨fun _ => none, [], rfl, ⟨(fun _ _ h => nomatch h), (fun _ h => nomatch h), List.nodup_nil⟩⟩
theorem M.tl (h : M (R :: Rs) H) : M Rs H := by
  obtain ⟨F, L, ⟨l1, l2, rfl, a, b⟩, m⟩ := h
  refine ⟨F, l2, b, m.ex, fun c hc => m.own c (List.mem_append_right _ hc), ?_⟩
  have := m.nd
  rw [List.map_append] at this
  exact (List.nodup_append.mp this).2.1
theorem perm_at : ∀ {Rs : List Res} (i : Nat) {R : Res}, Rs[i]? = some R → Rs.Perm (R :: Rs.eraseIdx i)
  | [], i, R, h => by simp at h
  | S :: Rs, 0, R, h => by
    have e : S = R := Option.some.inj h
    subst e
    exact .refl _
  | S :: Rs, i + 1, R, h => by
    have ih := perm_at (Rs := Rs) i (R := R) (by simpa using h)
    exact (List.Perm.cons S ih).trans (List.Perm.swap R S _)
/-- the i-th resource comes first -/
theorem M.at (h : M Rs H) (i : Nat) (e : Rs[i]? = some R) : M (R :: Rs.eraseIdx i) H := h.perm (perm_at i e)
theorem M.hd (h : M (pt p o :: Rs) H) : H p = some o := by
  obtain ⟨F, L, ⟨l1, l2, rfl, rfl, b⟩, m⟩ := h
  exact (m.own (p, o) (by simp)).1
theorem M.hdF (h : M (fz p o :: Rs) H) : H p = some o := by
  obtain ⟨F, L, ⟨l1, l2, rfl, ⟨_, e⟩, b⟩, m⟩ := h
  exact m.ex _ _ e
theorem M.hdD {K : PySem.W.Frag} {v : V} {d : PyData} (h : M (dt K v d :: Rs) H) : Dp K H v d := by
  obtain ⟨F, L, ⟨l1, l2, rfl, ⟨_, e⟩, b⟩, m⟩ := h
  exact Dp_ext m.ex e
theorem M.got (h : M Rs H) (i : Nat) (e : Rs[i]? = some (pt p o)) : H p = some o := (h.at i e).hd
theorem M.gotF (h : M Rs H) (i : Nat) (e : Rs[i]? = some (fz p o)) : H p = some o := (h.at i e).hdF
theorem M.gotD {K : PySem.W.Frag} {v : V} {d : PyData} (h : M Rs H) (i : Nat) (e : Rs[i]? = some (dt K v d)) : Dp K H v d := (h.at i e).hdD
/-- a new object -/
theorem M.new (h : M Rs H) (hp : H p = none) : M (pt p o :: Rs) (upd H p o) := by
  obtain ⟨F, L, a, m⟩ := h
  have fp : F p = none := by
    cases q : F p with
    | none => rfl
    | some u => rw [m.ex _ _ q] at hp; cases hp
  refine ⟨F, (p, o) :: L, ⟨[(p, o)], L, rfl, rfl, a⟩, ⟨m.ex.trans (Ext.new hp), fun c hc => ?_, ?_⟩⟩
  · rcases List.mem_cons.mp hc with rfl | hc
    · exact ⟨upd_same, fp⟩
    · have q := m.own c hc
      refine ⟨?_, q.2⟩
      rw [upd_ne (ne_of_none q.1 hp)]
      exact q.1
  · rw [List.map_cons, List.nodup_cons]
    refine ⟨fun hm => ?_, m.nd⟩
    obtain ⟨c, hc, e⟩ := List.mem_map.mp hm
    have q := (m.own c hc).1
    rw [e, hp] at q
    cases q
/-- an owned object is changed -/
theorem M.put (h : M (pt p o :: Rs) H) : M (pt p o' :: Rs) (upd H p o') := by
  obtain ⟨F, L, ⟨l1, l2, rfl, rfl, b⟩, m⟩ := h
  have fp : F p = none := (m.own (p, o) (by simp)).2
  have nd := m.nd
  rw [List.map_append] at nd
  have nd2 : ((p :: l2.map (·.1)) : List Addr).Nodup := nd
  have np := (List.nodup_cons.mp nd2).1
  refine ⟨F, (p, o') :: l2, ⟨[(p, o')], l2, rfl, rfl, b⟩, ⟨fun a u e => ?_, fun c hc => ?_, nd2⟩⟩
  · have : a ≠ p := fun z => by rw [z, fp] at e; cases e
    rw [upd_ne this]
    exact m.ex _ _ e
  · rcases List.mem_cons.mp hc with rfl | hc
    · exact ⟨upd_same, fp⟩
    · have q := m.own c (List.mem_append_right _ hc)
      refine ⟨?_, q.2⟩
      have : c.1 ≠ p := fun z => np (List.mem_map.mpr ⟨c, hc, z⟩)
      rw [upd_ne this]
      exact q.1
/-- an owned object stays as it is from now on -/
theorem M.fix (h : M (pt p o :: Rs) H) : M (fz p o :: Rs) H := by
  obtain ⟨F, L, ⟨l1, l2, rfl, rfl, b⟩, m⟩ := h
  have hp := m.own (p, o) (by simp)
  have nd := m.nd
  rw [List.map_append] at nd
  have nd2 : ((p :: l2.map (·.1)) : List Addr).Nodup := nd
  have np := (List.nodup_cons.mp nd2).1
  have ex : Ext F (upd F p o) := Ext.new hp.2
  refine ⟨upd F p o, l2, ⟨[], l2, rfl, ⟨rfl, upd_same⟩, b.mono ex⟩, ⟨fun a u e => ?_, fun c hc => ?_, (List.nodup_cons.mp nd2).2⟩⟩
  · by_cases z : a = p
    · subst z
      rw [upd_same] at e
      cases e
      exact hp.1
    · rw [upd_ne z] at e
      exact m.ex _ _ e
  · have q := m.own c (List.mem_append_right _ hc)
    refine ⟨q.1, ?_⟩
    have : c.1 ≠ p := fun z => np (List.mem_map.mpr ⟨c, hc, z⟩)
    rw [upd_ne this]
    exact q.2
theorem M.dupF (h : M (fz p o :: Rs) H) : M (fz p o :: fz p o :: Rs) H := by
  obtain ⟨F, L, ⟨l1, l2, rfl, ⟨rfl, e⟩, b⟩, m⟩ := h
  exact ⟨F, l2, ⟨[], l2, rfl, ⟨rfl, e⟩, [], l2, rfl, ⟨rfl, e⟩, b⟩, m⟩
theorem M.dupD {K : PySem.W.Frag} {v : V} {d : PyData} (h : M (dt K v d :: Rs) H) : M (dt K v d :: dt K v d :: Rs) H := by
  obtain ⟨F, L, ⟨l1, l2, rfl, ⟨rfl, e⟩, b⟩, m⟩ := h
  exact ⟨F, l2, ⟨[], l2, rfl, ⟨rfl, e⟩, [], l2, rfl, ⟨rfl, e⟩, b⟩, m⟩
theorem M.sp (h : M (sp2 R S :: Rs) H) : M (R :: S :: Rs) H := by
  obtain ⟨F, L, ⟨l1, l2, rfl, ⟨l3, l4, rfl, a, b⟩, c⟩, m⟩ := h
  exact ⟨F, _, ⟨l3, l4 ++ l2, by rw [List.append_assoc], a, l4, l2, rfl, b, c⟩, m⟩
theorem M.sp' (h : M (R :: S :: Rs) H) : M (sp2 R S :: Rs) H := by
  obtain ⟨F, L, ⟨l1, l2, rfl, a, l3, l4, rfl, b, c⟩, m⟩ := h
  exact ⟨F, _, ⟨l1 ++ l3, l4, by rw [List.append_assoc], ⟨l1, l3, rfl, a, b⟩, c⟩, m⟩
theorem M.ex {α : Type} {T : α → Res} (h : M (exi T :: Rs) H) : ∃ x, M (T x :: Rs) H := by
  obtain ⟨F, L, ⟨l1, l2, rfl, ⟨x, a⟩, c⟩, m⟩ := h
  exact ⟨x, F, _, ⟨l1, l2, rfl, a, c⟩, m⟩
theorem M.ex' {α : Type} {T : α → Res} (x : α) (h : M (T x :: Rs) H) : M (exi T :: Rs) H := by
  obtain ⟨F, L, ⟨l1, l2, rfl, a, c⟩, m⟩ := h
  exact ⟨F, _, ⟨l1, l2, rfl, ⟨x, a⟩, c⟩, m⟩
theorem M.pr {φ : Prop} (h : M (prp φ R :: Rs) H) : φ ∧ M (R :: Rs) H := by
  obtain ⟨F, L, ⟨l1, l2, rfl, ⟨x, a⟩, c⟩, m⟩ := h
  exact ⟨x, F, _, ⟨l1, l2, rfl, a, c⟩, m⟩
theorem M.pr' {φ : Prop} (x : φ) (h : M (R :: Rs) H) : M (prp φ R :: Rs) H := by
  obtain ⟨F, L, ⟨l1, l2, rfl, a, c⟩, m⟩ := h
  exact ⟨F, _, ⟨l1, l2, rfl, ⟨x, a⟩, c⟩, m⟩
/-- the i-th, owned, is changed; the places stay -/
theorem perm_set : ∀ {Rs : List Res} (i : Nat) {R S : Res}, Rs[i]? = some R → (S :: Rs.eraseIdx i).Perm (Rs.set i S)
  | [], i, R, S, h => by simp at h
  | T :: Rs, 0, R, S, h => .refl _
  | T :: Rs, i + 1, R, S, h => by
    have ih := perm_set (Rs := Rs) i (R := R) (S := S) (by simpa using h)
    exact (List.Perm.swap T S _).trans (List.Perm.cons T ih)
theorem M.putAt (h : M Rs H) (i : Nat) (e : Rs[i]? = some (pt p o)) : M (Rs.set i (pt p o')) (upd H p o') := ((h.at i e).put (o' := o')).perm (perm_set i e)
theorem M.fixAt (h : M Rs H) (i : Nat) (e : Rs[i]? = some (pt p o)) : M (Rs.set i (fz p o)) H := (h.at i e).fix.perm (perm_set i e)
theorem M.setAt (h : M Rs H) (i : Nat) (e : Rs[i]? = some R) (k : M (R :: Rs.eraseIdx i) H → M (S :: Rs.eraseIdx i) H) : M (Rs.set i S) H := (k (h.at i e)).perm (perm_set i e)
end
end RC

namespace RC
open PySem PySem.Spec PyProof.Rows L2
/-! ### a def's promise: the names may be bound in any order; g: it wants to know that nothing is being shown (repr) around it -/
structure FnX (g : Bool) (P : Program) (w : World) (K : PySem.W.Frag) (mg : Str → Option Value) (base : Heap) (CX : CXT) (k : Nat) (f : Addr) (fd : FuncData) (ps : List Str) (sp : Sp) : Prop where
  lenG : ∀ vs H Q E, sp vs H Q E → vs.length = ps.length
  runG : ∀ (B : Around) (out : List Env) (t : Shared) (H : Hp) (args : Args) (bs : List (Str × Value)) (us : List Value) (vs : List V) (Q : VK) (E : XK), (g = true → B.guards = some []) → Room k B → Env0 P w K mg base B out t H →
    BindsTo t fd args bs → bs.Perm (ps.zip us) → Vals vs us → sp vs H Q E → codeAny (model P w) B (.call (.ref f) args) (CR CX out P w H t Q E) t
theorem zip_names {α β : Type} : ∀ (as : List α) (bs : List β), (as.zip bs).map (·.1) = as.take bs.length
  | [], _ => by simp
  | _ :: _, [] => rfl
  | a :: as, b :: bs => by
    show a :: (as.zip bs).map (·.1) = a :: as.take bs.length
    rw [zip_names as bs]
theorem bindL_perm {kd : Str → Option NameKind} {l l' : List (Str × Value)} (p : l.Perm l') : (l.map (·.1)).Nodup → ∀ m, bindL kd l m = bindL kd l' m := by
  induction p with
  | nil => exact fun _ _ => rfl
  | cons x _ ih =>
    intro nd m
    obtain ⟨n, v⟩ := x
    have nd2 := (List.nodup_cons.mp nd).2
    unfold bindL
    split <;> exact ih nd2 _
  | swap x y l =>
    intro nd m
    obtain ⟨n, v⟩ := x
    obtain ⟨n', v'⟩ := y
    have ne : n' ≠ n := fun e => (List.nodup_cons.mp nd).1 (by rw [e]; exact List.mem_cons_self)
    show bindL kd ((n', v') :: (n, v) :: l) m = bindL kd ((n, v) :: (n', v') :: l) m
    unfold bindL
    unfold bindL
    by_cases h1 : kd n' = some .local <;> by_cases h2 : kd n = some .local <;> simp only [h1, h2, if_true, if_false]
    all_goals try rfl
    congr 1
    funext z
    by_cases e1 : z = n
    · subst e1
      simp [Ne.symm ne]
    · simp [e1]
  | trans p q ih1 ih2 =>
    intro nd m
    rw [ih1 nd m, ih2 ((p.map _).nodup_iff.mp nd) m]
theorem bindC_perm {kd : Str → Option NameKind} {l l' : List (Str × Value)} (p : l.Perm l') : (l.map (·.1)).Nodup → ∀ m, bindC kd l m = bindC kd l' m := by
  induction p with
  | nil => exact fun _ _ => rfl
  | cons x _ ih =>
    intro nd m
    obtain ⟨n, v⟩ := x
    have nd2 := (List.nodup_cons.mp nd).2
    unfold bindC
    split <;> exact ih nd2 _
  | swap x y l =>
    intro nd m
    obtain ⟨n, v⟩ := x
    obtain ⟨n', v'⟩ := y
    have ne : n' ≠ n := fun e => (List.nodup_cons.mp nd).1 (by rw [e]; exact List.mem_cons_self)
    show bindC kd ((n', v') :: (n, v) :: l) m = bindC kd ((n, v) :: (n', v') :: l) m
    unfold bindC
    unfold bindC
    by_cases h1 : kd n' = some .local <;> by_cases h2 : kd n = some .local <;> simp only [h1, h2, if_true, if_false]
    all_goals try rfl
    congr 1
    funext z
    by_cases e1 : z = n
    · subst e1
      simp [Ne.symm ne]
    · simp [e1]
  | trans p q ih1 ih2 =>
    intro nd m
    rw [ih1 nd m, ih2 ((p.map _).nodup_iff.mp nd) m]
section
variable {g : Bool} {P : Program} {w : World} {K : PySem.W.Frag} {mg : Str → Option Value} {base : Heap} {CX : CXT} {k : Nat} {f : Addr} {fd : FuncData} {ps : List Str} {sp : Sp}
theorem FnX.ok (F : FnX false P w K mg base CX k f fd ps sp) : FnOk P w K mg base CX k f fd ps sp :=
  ⟨F.lenG, fun B out t H args us vs Q E hr e b r h => F.runG B out t H args _ us vs Q E (fun z => nomatch z) hr e b (.refl _) r h⟩
theorem FnX.up {g' : Bool} (F : FnX g P w K mg base CX k f fd ps sp) (h : g = true → g' = true) : FnX g' P w K mg base CX k f fd ps sp :=
  ⟨F.lenG, fun B out t H args bs us vs Q E gu hr e b p r hs => F.runG B out t H args bs us vs Q E (fun z => gu (h z)) hr e b p r hs⟩
theorem FnX.mono {j : Nat} (F : FnX g P w K mg base CX j f fd ps sp) (h : j ≤ k) : FnX g P w K mg base CX k f fd ps sp :=
  ⟨F.lenG, fun B out t H args bs us vs Q E gu hr e b p r hs => F.runG B out t H args bs us vs Q E gu (hr.mono h) e b p r hs⟩
theorem okX {x qual : Str} {params : Arguments} {body : List Stmt} {scope : Scope} {dvs : List V} {kws : List (Str × V)} {N : List Str} (D : FunD K x qual params body scope dvs kws f fd) (S : FnScope N ps scope)
    (hlen : ∀ vs H Q E, sp vs H Q E → vs.length = ps.length)
    (hbody : ∀ (cdv : Value) (B : Around) (out : List Env) (t : Shared) (H : Hp) (vs : List V) (Q : VK) (E : XK), (g = true → B.guards = some []) → Room k (B.deeper (envOfC qual scope t.heap.objs.size f cdv)) → sp vs H Q E →
      ∃ tr, PSs (cxOf CX P w K mg base N qual scope f cdv B out t H E) body tr ∧ tr { nx := fun _ H' => Q .non H', rt := Q } (start N vs) H) :
    FnX g P w K mg base CX (k + 1) f fd ps sp := by
  obtain ⟨⟨oc, od, dV, kV, doc, pm, an, cdv, ct, osl, rfl, lk, hcd, _, _⟩, _⟩ := D
  constructor
  · exact hlen
  intro B out t H args bs us vs Q E hg hr env hb hperm rel hsp
  have hin : K.In t.heap := env.mod.kin.keeps fun b o q => (env.bs b o q).1
  have hno : t.heap.NoLimit := env.mod.nolimit.keeps fun b o q => (env.bs b o q).1
  have hll := hlen _ _ _ _ hsp
  have nd : (bs.map (·.1)).Nodup := by
    refine (hperm.map _).nodup_iff.mpr ?_
    rw [zip_names, List.take_of_length_le (by rw [← rel.length, hll]; exact Nat.le_refl _), ← S.pre]
    exact S.nd.sublist (List.take_sublist _ _)
  have hk : ∀ y ∈ bs, scope.names.lookup y.1 = some .local ∨
      (scope.names.lookup y.1 = some .cell ∧ ((cellsFrom (t.heap.objs.size + 1) scope.names []).lookup y.1).isSome = true) := by
    rintro ⟨n, v⟩ hy
    cases S.par n (List.of_mem_zip (hperm.mem_iff.mp hy)).1 with
    | inl q => exact .inl q
    | inr q => exact .inr ⟨q, PySem.W.cellsFrom_some _ _ _ (.inl q)⟩
  refine codeAny_call_function hr.depth (hin _ _ lk) rfl S.co S.gen rfl
    (PySem.W.codeRec_of hin hcd) (hb _ _ _ _ ?_)
  refine wpAny_newFunctionEnv_cells S.kind hk fun ev hev t1 ic => ?_
  subst hev
  rw [bindL_perm hperm nd, bindC_perm hperm nd] at ic
  refine ⟨hno.keeps ic.toInCall.keep, codeAny_func ?_⟩
  obtain ⟨tr, htr, hq⟩ := hbody cdv B out t H vs Q E hg (hr.deeper _) hsp
  have J : Inv (cxOf CX P w K mg base N qual scope f cdv B out t H E) [] (start N vs) H t1 :=
    inv_start S hr.hd env hll rel ic
  refine wpAny_mono (htr.run [] t1 (start N vs) H _ J hq) (fun fl t2 z => ?_) fun _ _ z => z
  cases fl with
  | next =>
    obtain ⟨s2, H2, J2, q2⟩ := z
    exact ⟨V.non, H2, J2.os, J2.bare, J2.base, J2.hok, rfl, q2⟩
  | ret u =>
    obtain ⟨v2, s2, H2, J2, r2, q2⟩ := z
    exact ⟨v2, H2, J2.os, J2.bare, J2.base, J2.hok, r2, q2⟩
  | brk =>
    obtain ⟨_, _, _, q2⟩ := z
    cases q2
  | cont =>
    obtain ⟨_, _, _, q2⟩ := z
    cases q2
end
section
variable {X : Cx} {g : Bool} {CX : CXT} {k n : Nat} {f : Addr} {fd : FuncData} {ps ps' ks : List Str} {sp : Sp} {ds : List Value} {dvs : List V} {E : XK}
theorem runX_fn {pins : List (Addr × Obj)} {σ : L2.St} {H : Hp} {s : Shared} {Q : VK} {us : List Value} {vs : List V} (F : FnX g X.prog X.w X.K X.mg X.base CX k f fd ps sp) (hg : g = true → X.A.guards = some []) (hr : Room k X.A)
    (hb : Binds X.K fd ps ds) (hd : Vals dvs ds) (hx : Passes CX X E) (I : Inv X pins σ H s) (r : Vals vs us) (h : sp (vs ++ dvs) H Q E) :
    wpAny (model X.prog X.w) X.A (call (.ref f) us) (EP X pins σ Q) X.xe s := by
  have rr : Vals (vs ++ dvs) (us ++ ds) := r.append hd
  have ll : (us ++ ds).length = ps.length := rr.length.symm.trans (F.lenG _ _ _ _ h)
  have go := F.runG X.A X.stack s H ⟨us, []⟩ _ (us ++ ds) (vs ++ dvs) Q E hg hr I.env0 (hb s us I.kIn ll) (.refl _) rr h
  refine wpAny_call (codeAny_mono go fun res s' hq => ?_)
  match res, hq with
  | .error e, hq => exact hx pins σ H s e s' I hq
  | .ok (.ret u), hq => exact I.after hq
  | .ok .next, hq => cases hq
  | .ok .brk, hq => cases hq
  | .ok .cont, hq => cases hq
theorem pe_callX {x : Str} {e : Expr} {es : List Expr} {t : TA} {p pos : Pos} (F : FnX g X.prog X.w X.K X.mg X.base CX k f fd ps sp) (hgu : g = true → X.A.guards = some []) (hr : Room k X.A) (hg : Gl X x) (hm : X.mg x = some (.ref f))
    (hk : PySem.W.keepIn X.K (.ref f) = true) (hb : Binds X.K fd ps ds) (hd : Vals dvs ds) (hx : Passes CX X E)
    (ha : PA X (e :: es) t) (hdb : (x == ("__debug__" : Str)) = false := by decide) (he : starEach (e :: es) X.env = (false, eval e X.env) :: starEach es X.env := by rfl)
    (hpl : (backTo pos (starEach es X.env)).any (·.1) = false := by rfl) : PE X (.Call (.Name x p) (e :: es) [] pos) (tCall sp dvs E t) := by
  constructor
  intro pins s σ H Q I h
  refine wpAny_Call_Name_kw (ld_glob I hg hm ?_ hdb)
  have body := thn (ha.run pos pins s σ H _ I h) (Q' := fun us s1 => X.K.In s1.heap ∧ wpAny (model X.prog X.w) X.A (call (.ref f) us) (EP X pins σ Q) X.xe s1)
    fun us s1 ⟨vs, H1, I1, r1, q1⟩ => ⟨I1.kIn, runX_fn F hgu hr hb hd hx I1 r1 q1⟩
  exact PySem.W.callWith_K (h₀ := X.base) I.ok.mod.kin hk body he hpl
/-- f(e, .., k = v, ..): bound as ps' says, turned by π to the parameters' order -/
theorem runX_kw {pins : List (Addr × Obj)} {σ : L2.St} {H : Hp} {s : Shared} {Q : VK} {us ws : List Value} {vs zs : List V} {gU : List Value → List Value → List Value} {gV : List V → List V → List V} (π : {α : Type} → List α → List α)
    (F : FnX g X.prog X.w X.K X.mg X.base CX k f fd ps sp) (hg : g = true → X.A.guards = some []) (hr : Room k X.A) (hb : KBn X.K fd ps' n ks gU gV) (hx : Passes CX X E)
    (h1 : ∀ vs us, Vals vs us → Vals (π vs) (π us)) (h2 : ∀ us : List Value, us.length = ps'.length → (ps'.zip us).Perm (ps.zip (π us)))
    (I : Inv X pins σ H s) (r : Vals vs us) (rz : Vals zs ws) (l1 : vs.length = n) (l2 : zs.length = ks.length) (l3 : (gV vs zs).length = ps'.length) (h : sp (π (gV vs zs)) H Q E) :
    wpAny (model X.prog X.w) X.A (call (.ref f) us (ks.zip ws)) (EP X pins σ Q) X.xe s := by
  have rr := hb.rel r rz
  have go := F.runG X.A X.stack s H ⟨us, ks.zip ws⟩ _ (π (gU us ws)) (π (gV vs zs)) Q E hg hr I.env0 (hb.to s us ws I.kIn (r.length.symm.trans l1) (rz.length.symm.trans l2)) (h2 _ (rr.length.symm.trans l3)) (h1 _ _ rr) h
  refine wpAny_call (codeAny_mono go fun res s' hq => ?_)
  match res, hq with
  | .error e, hq => exact hx pins σ H s e s' I hq
  | .ok (.ret u), hq => exact I.after hq
  | .ok .next, hq => cases hq
  | .ok .brk, hq => cases hq
  | .ok .cont, hq => cases hq
def tCallP (n m l : Nat) (π : {α : Type} → List α → List α) (sp : Sp) (gV : List V → List V → List V) (E : XK) (t tk : TA) : TE := fun σ H Q => t σ H fun vs H1 => tk σ H1 fun zs H2 => vs.length = n ∧ zs.length = m ∧ (gV vs zs).length = l ∧ sp (π (gV vs zs)) H2 Q E
theorem pe_callP {x : Str} {e : Expr} {es : List Expr} {kws : List Keyword} {t tk : TA} {p pos : Pos} {gU : List Value → List Value → List Value} {gV : List V → List V → List V} (π : {α : Type} → List α → List α)
    (F : FnX g X.prog X.w X.K X.mg X.base CX k f fd ps sp) (hgu : g = true → X.A.guards = some []) (hr : Room k X.A) (hg : Gl X x) (hm : X.mg x = some (.ref f))
    (hk : PySem.W.keepIn X.K (.ref f) = true) (hb : KBn X.K fd ps' n ks gU gV) (hx : Passes CX X E) (h1 : ∀ vs us, Vals vs us → Vals (π vs) (π us)) (h2 : ∀ us : List Value, us.length = ps'.length → (ps'.zip us).Perm (ps.zip (π us)))
    (ha : PA X (e :: es) t) (hkw : PK X kws tk) (hall : (backToKw pos (keywordEach kws X.env)).all (·.1.isSome) = true := by rfl) (hks : (backToKw pos (keywordEach kws X.env)).filterMap (·.1) = ks := by rfl)
    (hdb : (x == ("__debug__" : Str)) = false := by decide) (he : starEach (e :: es) X.env = (false, eval e X.env) :: starEach es X.env := by rfl)
    (hpl : ((backTo pos (starEach (e :: es) X.env)).any (·.1) || (backToKw pos (keywordEach kws X.env)).any (·.1.isNone)) = false := by rfl) :
    PE X (.Call (.Name x p) (e :: es) kws pos) (tCallP n ks.length ps'.length π sp gV E t tk) := by
  constructor
  intro pins s σ H Q I h
  refine wpAny_Call_Name_kw (ld_glob I hg hm ?_ hdb)
  refine PySem.W.callWith_KW (h₀ := X.base) I.ok.mod.kin hk hall
    (thn (ha.run pos pins s σ H _ I h) ?_) hpl he
  rintro us s1 ⟨vs, H1, I1, r1, q1⟩
  refine thn (hkw.run pos pins s1 σ H1 _ I1 q1) ?_
  rintro ws s2 ⟨zs, H2, I2, r2, l1, l2, l3, q2⟩
  refine ⟨I2.kIn, ?_⟩
  subst hks
  exact runX_kw π F hgu hr hb hx h1 h2 I2 r1 r2 l1 l2 l3 q2
end
/-- some places of a list -/
def pickL {α : Type} (is : List Nat) (l : List α) : List α := is.filterMap fun i => l[i]?
theorem pickL_vals {vs : List V} {us : List Value} (r : Vals vs us) : ∀ is : List Nat, Vals (pickL is vs) (pickL is us)
  | [] => .nil
  | i :: is => by
    unfold pickL
    cases e : vs[i]? with
    | none =>
      rw [List.filterMap_cons, List.filterMap_cons, e, r.none_of e]
      exact pickL_vals r is
    | some v =>
      obtain ⟨u, hu, ru⟩ := r.get e
      rw [List.filterMap_cons, List.filterMap_cons, e, hu]
      exact .cons ru (pickL_vals r is)
theorem permAt {α : Type} : ∀ {l : List α} (i : Nat) {x : α}, l[i]? = some x → l.Perm (x :: l.eraseIdx i)
  | [], i, x, h => by simp at h
  | y :: l, 0, x, h => by
    have e : y = x := Option.some.inj h
    subst e
    exact .refl _
  | y :: l, i + 1, x, h => (List.Perm.cons y (permAt (l := l) i (x := x) (by simpa using h))).trans (List.Perm.swap x y _)
/-! ### the law's end for such a def -/
theorem law_callG {P : Program} {w : World} {K : PySem.W.Frag} {mg mb : Str → Option Value} {CX : CXT} {k : Nat} {fa a : Addr} {fd : FuncData} {x : Str} {sp : Sp} {s1 : Shared} {vs : List Value} {ns : List Int}
    (KX : K.In s1.heap) (hns : s1.heap.Ns mainGlobals mg) (hb : s1.heap.Ns builtinsNs mb) (hbb : ∀ x : Str, x ≠ "__name__" → mb x = bootBuiltins x) (hlim : s1.heap.NoLimit) (hdig : s1.heap.NoDigits) (hg : s1.gens = #[])
    (ha : s1.heap.get? a = some { cls := .type "list", data := .seq vs.toArray }) (hi : IntsAre vs ns) (hl : ns.length ≤ sizeLine) (hr : Room k callerA)
    (F : ∀ base : Heap, K.In base → base.Ns mainGlobals mg → base.NoDigits → FnX true P w K mg base CX k fa fd [x] sp)
    (hbind : ∀ (s : Shared) (u : Value), BindsTo s fd ⟨[u], []⟩ [(x, u)])
    (hsp : ∀ H : Hp, SqL K H a (ns.map V.int) → sp [.ref a] H (fun v _ => v = .bl true) fun _ _ _ => False)
    (hCX : ∀ H e s', CX [] H s1 (fun _ _ _ => False) e s' → False) :
    codeAny (model P w) callerA (.call (.ref fa) ⟨[.ref a], []⟩) (fun r s' => r = .ok (.ret (.bool true)) ∧ OldK s1.heap s'.heap ∧ s'.os = s1.os ∧ AllBare s'.gens) s1 := by
  have rv := vals_ints hi
  -- the abstract heap: the script alone, locked, unless it is one of the module's own objects
  obtain ⟨H, hS, hok, hA, hK, hO⟩ : ∃ H : Hp, SqL K H a (ns.map V.int) ∧ HOk P w H s1.heap ∧ (∀ b, H b ≠ none → b = a) ∧ (H a ≠ none → K.lookup a = none) ∧
      ∀ b u, H b = some u → ∃ o v, u = .frz o v := by
    cases hk : K.lookup a with
    | some o =>
      have e := KX a o hk
      rw [ha] at e
      cases e
      refine ⟨fun _ => none, .inr ⟨_, vs.toArray, _, hk, rfl, rfl, rfl, ?_, by simpa using rv⟩, ?_, ?_, ?_, ?_⟩
      · rw [List.size_toArray, hi.length]
        exact hl
      · intro b u z
        cases (show (none : Option HO) = some u from z)
      · intro b z
        exact absurd rfl z
      · intro z
        exact absurd rfl z
      · intro b u z
        cases (show (none : Option HO) = some u from z)
    | none =>
      have at1 : upd (fun _ => none) a (.frz { cls := .type "list", data := .seq vs.toArray } (.lst (ns.map V.int))) a = some (HO.frz { cls := .type "list", data := .seq vs.toArray } (.lst (ns.map V.int))) := upd_same
      have at2 : ∀ b u, upd (fun _ => none) a (.frz { cls := .type "list", data := .seq vs.toArray } (.lst (ns.map V.int))) b = some u → b = a ∧ u = HO.frz { cls := .type "list", data := .seq vs.toArray } (.lst (ns.map V.int)) := by
        intro b u z
        by_cases q : b = a
        · subst q
          rw [upd_same] at z
          exact ⟨rfl, (Option.some.inj z).symm⟩
        · rw [upd_ne q] at z
          cases z
      refine ⟨_, .inl (.inr ⟨_, at1⟩), ?_, ?_, fun _ => rfl, ?_⟩
      · intro b u z
        obtain ⟨rfl, rfl⟩ := at2 b u z
        refine ⟨ha, ?_, vs, _, rv, ha⟩
        rw [List.length_map]
        exact hl
      · intro b z
        cases q : upd (fun _ => none) a (.frz { cls := .type "list", data := .seq vs.toArray } (.lst (ns.map V.int))) b with
        | none => exact absurd q z
        | some u => exact (at2 b u q).1
      · intro b u z
        exact ⟨_, _, (at2 b u z).2⟩
  have off : ∀ {b : Addr} {o : Obj} {es : Array DictEntry} {ep : Nat}, s1.heap.get? b = some o → o.data = .dict es ep → H b = none := by
    intro b o es ep e d
    cases q : H b with
    | none => rfl
    | some u =>
      have z : b = a := hA b (by rw [q]; simp)
      subst z
      rw [ha] at e
      cases e
      cases (show Data.seq vs.toArray _ = Data.dict es ep from d)
  have nsH : ∀ {b : Addr} {m : Str → Option Value}, s1.heap.Ns b m → (hidT s1.heap H).Ns b m := by
    rintro b m ⟨o, es, ep, e, d, r⟩
    exact ⟨o, es, ep, hidT_get e (off e d), d, r⟩
  have hKb : K.In (hidT s1.heap H) := by
    intro b o e
    refine hidT_get (KX b o e) ?_
    cases q : H b with
    | none => rfl
    | some u =>
      have z : b = a := hA b (by rw [q]; simp)
      subst z
      rw [hK (by rw [q]; simp)] at e
      cases e
  have hM : Mod K mg (hidT s1.heap H) := by
    obtain ⟨mc, h1, h2⟩ := hlim
    exact ⟨hKb, nsH hns, ⟨mb, nsH hb, hbb⟩, ⟨mc, nsH h1, h2⟩⟩
  have e0 : Env0 P w K mg (hidT s1.heap H) callerA [] s1 H := by
    refine ⟨rfl, hM, fun b o e => of_hidT e, Nat.le_of_eq (hidT_size _ _), trivial, fun b hb => ?_, hok, .of_eq hg⟩
    cases (show b ∈ ([] : List Addr) from hb)
  have go := (F _ hKb (nsH hns) (by obtain ⟨mc, h1, h2⟩ := hdig; exact ⟨mc, nsH h1, h2⟩)).runG callerA [] s1 H ⟨[.ref a], []⟩ _ [.ref a] [.ref a] _ _ (fun _ => rfl) hr e0 (hbind s1 (.ref a)) (.refl _) (.cons rfl .nil) (hsp H hS)
  refine codeAny_mono go fun res s' h => ?_
  match res, h with
  | .error e, h => exact (hCX H e s' h).elim
  | .ok .next, h => cases h
  | .ok .brk, h => cases h
  | .ok .cont, h => cases h
  | .ok (.ret u), h =>
    obtain ⟨v, H', os, bare, un, hok', r', q⟩ := h
    cases (show v = .bl true from q)
    cases (show u = Value.bool true from r')
    refine ⟨rfl, OldK.of_keep fun b o e => ?_, os, bare⟩
    cases q : H b with
    | none =>
      refine un.keep b o e q (fun z => ?_) (by simp)
      cases (show b ∈ ([] : List Addr) from z)
    | some u =>
      obtain ⟨ob, v2, rfl⟩ := hO b u q
      have z2 := un.frzs b ob _ q
      obtain ⟨e1, _⟩ := hok b _ q
      obtain ⟨e2, _⟩ := hok' b _ z2
      rw [e] at e1
      cases e1
      exact e2
theorem walk_G {l : PySem.W.OpenLaw} {n k : Nat} {q : Program} {loose : List Str} {XP : (Str → Option Value) → Heap → Prop} {YP : World → Heap → Prop} {d : DefRec} {CX : World → CXT} {x : Str}
    (hn : l.most = some n) (hn2 : n ≤ sizeLine) (hdf : d.params.defaults = []) (hr : Room k callerA)
    (F : ∀ (w : World) (mg : Str → Option Value) (fa : Addr) (h : Heap), YP w h → h.Ns mainGlobals mg → mg d.name = some (.ref fa) →
      ∃ (K : PySem.W.Frag) (fd : FuncData) (sp : Sp), K.In h ∧ (∀ (s : Shared) (u : Value), BindsTo s fd ⟨[u], []⟩ [(x, u)]) ∧
        (∀ (H : Hp) (a : Addr) (ns : List Int), ns.length ≤ n → SqL K H a (ns.map V.int) → sp [.ref a] H (fun v _ => v = .bl true) fun _ _ _ => False) ∧
        ∀ base : Heap, K.In base → base.Ns mainGlobals mg → base.NoDigits → FnX true l.prog w K mg base (CX w) k fa fd [x] sp)
    (hCX : ∀ (w : World) (H : Hp) (s : Shared) (e : Value) (s' : Shared), CX w [] H s (fun _ _ _ => False) e s' → False) :
    PySem.W.WalkO q loose XP YP l.row.toRowW d [] (fun f vs => PySem.call f vs) := by
  refine Att.attach_call hn hdf ?_
  intro w s0 s1 mg mb fa o pm cd doc a vs ns G Y ho hd hcd hmg hobj hints hlen hgen
  obtain ⟨K, fd, sp, KX, hb, hsp, hF⟩ := F w mg fa _ Y G.T.g hmg
  exact law_callG KX G.T.g G.T.b G.T.builtins G.T.nolimit G.T.nodigits hgen hobj hints
    (Nat.le_trans hlen hn2) hr hF hb (fun H hS => hsp H a ns hlen hS) (fun H e s' => hCX w H s1 e s')
end RC

namespace RC
open PySem PySem.Spec PySem.Calls PySem.NumText PyProof.Rows L2
theorem wp_maxDigits {M : Model} {A : Around} {E : Value → Shared → Prop} {s : Shared} {Q : Nat → Shared → Prop} (hn : s.heap.NoDigits) (h : Q 4300 s) : wpAny M A Builtin.intMaxStrDigits Q E s := by
  obtain ⟨mc, hns, hnone⟩ := hn
  unfold Builtin.intMaxStrDigits
  refine wpAny_bind (wpAny_nsGet hns ?_)
  rw [hnone]
  exact wpAny_pure h
theorem wp_textL {M : Model} {A : Around} {E : Value → Shared → Prop} {s : Shared} {Q : Value → Shared → Prop} {v : Value} {text : List Nat} {n : Int} (hd : s.heap.NoDigits)
    (hs : ¬ (text.takeWhile (· != 0)).length ≤ 640) (hr : (int_private% "readNumeral") 4300 10 (text.takeWhile (· != 0)) = (int_private% "Numeral.value") n)
    (ha : ((text.takeWhile (· != 0)).length == text.length) = true) (h : Q (.int n s.toks) { s with toks := s.toks + 1 }) :
    wpAny M A ((int_private% "intFromText") v text 10) Q E s := by
  obtain ⟨hp, g, d, tk, os⟩ := s
  repeat (any_goals (first
    | assumption
    | (with_reducible refine wpAny_ite_false (decide_eq_false hs) ?_)
    | (with_reducible refine wpAny_ite_true (decide_eq_true ha) ?_)
    | (with_reducible refine wp_maxDigits hd ?_)
    | wp_step))
  all_goals (try rw [hr])
  all_goals (try dsimp only)
  repeat (any_goals (first
    | assumption
    | (with_reducible refine wpAny_ite_true (decide_eq_true ha) ?_)
    | wp_step))
structure HidL (p : Prop) : Prop where
  out : p
theorem meets_textL {x : PySem.Str} {u : Tok} {n : Int} (hl : ¬ (numSeenOf x).length ≤ 640) (hz : x.length ≤ sizeLine) (hn : PySem.intText? x = some n) :
    Meets (Builtin.«int.__new__» ⟨[.type "int", .str x u], []⟩) (fun _ R s => s.heap.NoDigits ∧ R (.ok (.ret (.int n s.toks))) { s with toks := s.toks + 1 }) := by
  intro prog w A R s h
  obtain ⟨hd, h⟩ := h
  refine wpAny_mono (Q := fun fin s' => ∃ v, fin = .done (.ret v) ∧ R (.ok (.ret v)) s') ?_ (fun fin s' h' => by obtain ⟨v, rfl, hv⟩ := h'; exact hv) fun _ _ x => x
  obtain ⟨hp, g, d, tk, os⟩ := s
  have f1 := F.conv_sub_int
  have f2 := F.madeHere_int
  have f3 := PySem.W.KIN.str_int
  have f4 := PySem.W.KIN.str_idx
  have f5 := PySem.W.KIN.str_trunc
  have f6 : typeOf (.str x u) = pure (.type "str") := rfl
  have hr : (int_private% "readNumeral") 4300 10 (numSeenOf x) = (int_private% "Numeral.value") n ∧ ((numSeenOf x).length == (numTextOf x).length) = true := by
    rcases read4300 x hz with ⟨m, h1, h2, h3⟩ | ⟨h1, _⟩
    · rw [hn] at h1
      injection h1 with h1
      subst h1
      exact ⟨h3, h2⟩
    · rw [hn] at h1
      cases h1
  have hk := HidL.mk (And.intro hl hr)
  have hh := HidL.mk hd
  clear hl hr hn hz hd
  repeat (any_goals (first
    | assumption
    | ((with_reducible show wpAny _ _ ((int_private% "intFromText") _ _ _) _ _ _); refine wp_textL hh.out hk.out.1 hk.out.2.1 hk.out.2.2 ?_)
    | wp_step))
  all_goals first | exact ⟨_, rfl, h⟩ | skip
/-- int(text), of plain signs -/
def rIntT : List V → Hp → VK → Prop := fun xs H Q => ∃ a n, xs = [.str a] ∧ PySem.intText? a = some n ∧ a.cps.all (· < 128) = true ∧ a.length ≤ sizeLine ∧ Q (.int n) H
theorem cr_intT {X : Cx} (nd : X.base.NoDigits) : CallR X (.type "int") rIntT := by
  intro pins s σ H xs us Q I rs h
  obtain ⟨a, n, rfl, hn, ha, hz, h⟩ := h
  cases rs with
  | cons r1 rs =>
    cases rs
    obtain ⟨t, rfl⟩ := r1
    by_cases hl : a.length ≤ 640
    · exact PySem.W.KIN.call_text hn hl ⟨.int n, H, I.tok _, ⟨_, rfl⟩, h⟩
    · have e : numTextOf a = a.cps.toList := if_pos ha
      have hs : ¬ (numSeenOf a).length ≤ 640 := by
        rcases read4300 a hz with ⟨m, h1, h2, h3⟩ | ⟨h1, _⟩
        · have z := eq_of_beq h2
          rw [z, e, Array.length_toList]
          exact hl
        · rw [hn] at h1
          cases h1
      exact call_int_1 (meets_textL hs hz hn) ⟨nd.keeps fun b o q => (I.env0.bs b o q).1, rfl, ⟨.int n, H, I.tok _, ⟨_, rfl⟩, h⟩⟩
/-- a text of one sign, times a number -/
def rRepS : R2 := fun x y H Q => ∃ (c : Nat) (n : Int), x = .str (SX.S [c]) ∧ y = .int n ∧ 1 ≤ n ∧ n ≤ 100000 ∧ Q (.str (SX.S (List.replicate n.toNat c))) H
theorem rep_one (c : Nat) : ∀ (k : Nat) (acc : Array Nat), (List.replicate k #[c]).foldl (· ++ ·) acc = acc ++ (List.replicate k c).toArray
  | 0, acc => by simp
  | k + 1, acc => by
    rw [List.replicate_succ, List.foldl_cons, rep_one c k, List.replicate_succ]
    refine Array.toList_inj.mp ?_
    simp only [Array.toList_append, List.toList_toArray, List.append_assoc]
    rfl
theorem op_repS {X : Cx} : OpR X (binaryOp .Mult) rRepS := by
  intro pins s σ H x y v u Q I rx ry h
  obtain ⟨c, n, rfl, rfl, h1, h2, q⟩ := h
  obtain ⟨t, rfl⟩ := rx
  obtain ⟨t2, rfl⟩ := ry
  have hl : (SX.S [c]).length = 1 := SX.S_len [c]
  refine PySem.P.mul_str (by rw [decide_eq_false (by omega), decide_eq_false (by omega)]; rfl) (fun _ _ => ?_) (fun _ _ => ?_) ?_
  · rw [hl]
    have : (1 : Int) ≤ (2 ^ 63 - 1) / n := (Int.le_ediv_iff_mul_le (by omega)).mpr (by omega)
    omega
  · rw [hl]
    unfold Builtin.Str.tooLong
    rw [decide_eq_false]
    have := sizeLine_eq
    omega
  · rw [if_neg (by omega)]
    by_cases e : n = 1
    · subst e
      rw [if_pos (by rfl)]
      exact ⟨.str _, H, I, ⟨_, rfl⟩, q⟩
    · rw [if_neg (by rw [hl]; simp [e])]
      have e2 : (⟨(List.replicate n.toNat (SX.S [c]).cps).foldl (· ++ ·) #[]⟩ : Str) = SX.S (List.replicate n.toNat c) := by
        show (⟨(List.replicate n.toNat #[c]).foldl (· ++ ·) #[]⟩ : Str) = _
        rw [rep_one]
        simp
      rw [e2]
      refine ⟨?_, ⟨.str _, H, I.tok _, ⟨_, rfl⟩, q⟩⟩
      rw [SX.S_len, List.length_replicate]
      have := sizeLine_eq
      omega
end RC

namespace RC
open PySem PySem.Spec PyProof.Rows L2
/-! ### rules for any kinds of operands -/
section
variable {X : Cx}
/-- two lists, each of any standing -/
def rCatS (K : PySem.W.Frag) : R2 := fun x y H Q => ∃ l b xs zs, x = .ref l ∧ y = .ref b ∧ SqL K H l xs ∧ SqL K H b zs ∧ xs.length + zs.length ≤ sizeLine ∧ ∀ p, H p = none → Q (.ref p) (upd H p (.lst (xs ++ zs)))
theorem op_catS : OpR X (binaryOp .Add) (rCatS X.K) := by
  intro pins s σ H x y v u Q I rx ry h
  obtain ⟨l, b, xs, zs, rfl, rfl, hH, hB, hz, q⟩ := h
  cases rx
  cases ry
  obtain ⟨its, r, ⟨⟨cls, dd, data, sl⟩, n, ho, hc, _, hd⟩, _⟩ := I.list hH
  obtain ⟨its2, r2, ⟨⟨cls2, dd2, data2, sl2⟩, n2, ho2, hc2, _, hd2⟩, _⟩ := I.list hB
  simp only at hc hd hc2 hd2
  subst hc hd hc2 hd2
  have ea : its.toArray ++ its2.toArray = (its ++ its2).toArray := by simp
  have l1 := r.length
  have l2 := r2.length
  refine concat_meets ⟨_, ho, rfl⟩ ⟨_, ho2, rfl⟩ noFill_list_add seq_list_add PySem.F.slot_list_add PySem.F.entry_list_add (PySem.F.args_list_add_2 _ _) (list_addW l b its.toArray its2.toArray n n2 dd dd2 sl sl2 (by rw [List.size_toArray, List.size_toArray]; omega)) ⟨ho, ho2, ?_⟩
  rw [ea]
  exact ⟨.ref _, _, I.lnew (t' := s.toks) (r.append r2) (by rw [List.length_append]; omega), rfl, q _ I.fresh⟩
def uAdd (K : PySem.W.Frag) : R2 := fun x y H Q => rI0 (fun i j => .int (i + j)) x y H Q ∨ (∃ i j, x = .str i ∧ y = .str j ∧ i.length + j.length ≤ sizeLine ∧ Q (.str (i ++ j)) H) ∨ rCatS K x y H Q ∨ rCatT K x y H Q
theorem uo_add : OpR X (binaryOp .Add) (uAdd X.K) := op_add.or (op_add_str.or (op_catS.or op_catT))
def uSub : R2 := rI0 fun i j => .int (i - j)
theorem uo_sub : OpR X (binaryOp .Sub) uSub := op_sub
def uMul : R2 := fun x y H Q => rI CMul (fun i j => .int (i * j)) x y H Q ∨ rI CMulW (fun i j => .int (i * j)) x y H Q ∨ rRep x y H Q ∨ rRepS x y H Q
theorem uo_mul : OpR X (binaryOp .Mult) uMul := op_mul.or (op_mulW.or (op_rep.or op_repS))
def uMod : R2 := rI (fun _ j => 0 < j) fun i j => .int (i % j)
theorem uo_mod : OpR X (binaryOp .Mod) uMod := op_mod
def uDiv : R2 := rI CDivW fun i j => .int (i / j)
theorem uo_div : OpR X (binaryOp .FloorDiv) uDiv := op_fdivW
def uPow : R2 := rI CPow fun i j => .int (i ^ j.toNat)
theorem uo_pow : OpR X (binaryOp .Pow) uPow := op_pow
/-- op= -/
def iAdd : R2 := fun x y H Q => rI0 (fun i j => .int (i + j)) x y H Q ∨ rExt2 x y H Q
theorem io_add : OpR X (inplaceOp .Add) iAdd := iop_add.or iop_ext
def iSub : R2 := rI0 fun i j => .int (i - j)
theorem io_sub : OpR X (inplaceOp .Sub) iSub := iop_sub
def iMul : R2 := rI CMul fun i j => .int (i * j)
theorem io_mul : OpR X (inplaceOp .Mult) iMul := iop_mul
def iDiv : R2 := rI CDiv fun i j => .int (i / j)
theorem io_div : OpR X (inplaceOp .FloorDiv) iDiv := iop_fdiv
/-- == and != of scalars, of data -/
def uEq (K : PySem.W.Frag) : R2 := fun x y H Q => rEq x y H Q ∨ rEqD K x y H Q
theorem uo_eq (hu : X.A.units + 64 < cLine) : OpR X (compareOp .Eq) (uEq X.K) := op_eq.or (op_eqD hu)
def uNe (K : PySem.W.Frag) : R2 := fun x y H Q => rNe x y H Q ∨ rNeD K x y H Q
theorem uo_ne (hu : X.A.units + 64 < cLine) : OpR X (compareOp .NotEq) (uNe X.K) := op_ne.or (op_neD hu)
def uLt : R2 := rI0 fun i j => .bl (decide (i < j))
def uLe : R2 := rI0 fun i j => .bl (decide (i ≤ j))
def uGt : R2 := rI0 fun i j => .bl (decide (j < i))
def uGe : R2 := rI0 fun i j => .bl (decide (j ≤ i))
theorem uo_lt : OpR X (compareOp .Lt) uLt := op_lt
theorem uo_le : OpR X (compareOp .LtE) uLe := op_le
theorem uo_gt : OpR X (compareOp .Gt) uGt := op_gt
theorem uo_ge : OpR X (compareOp .GtE) uGe := op_ge
/-- o[i] by values, o[i] = v by values: lists, dicts -/
def gIx (K : PySem.W.Frag) : V → V → Hp → VK → Prop := fun o i H Q => (∃ (p : Addr) (xs : List V) (n : Int) (v : V), o = .ref p ∧ i = .int n ∧ SqL K H p xs ∧ 0 ≤ n ∧ xs[n.toNat]? = some v ∧ Q v H) ∨ ∃ p v, o = .ref p ∧ DGet H p i (some v) ∧ Q v H
theorem get_any (hu : X.A.units + 1 < cLine) : PGet X (gIx X.K) := by
  intro pins s σ H o i ov iv Q I r1 r2 h
  rcases h with ⟨p, xs, n, v, rfl, rfl, hs, h0, hx, q⟩ | ⟨p, v, rfl, hd, q⟩
  · cases (show ov = Value.ref p from r1)
    obtain ⟨tk, rfl⟩ := r2
    obtain ⟨its, rv, pl, hz⟩ := I.list hs
    obtain ⟨u, hu, ru⟩ := rv.get hx
    have hlt : n.toNat < xs.length := (List.getElem?_eq_some_iff.mp hx).1
    have hle : n < 2 ^ 63 := by
      have := line63
      omega
    exact wpAny_getItem_list pl.isList h0 hle (by simpa using hu) ⟨v, H, I, ru, q⟩
  · cases (show ov = Value.ref p from r1)
    exact d_getItem hu I hd r2 fun w' s' I' rw' => ⟨v, H, I', rw', q⟩
def uSet : V → V → V → Hp → (Hp → Prop) → Prop := fun o i v H Q => rSetL o i v H Q ∨ ∃ p H', o = .ref p ∧ DPut H p i v H' ∧ Q H'
theorem set_any (hu : X.A.units + 1 < cLine) : PSet X uSet := by
  intro pins s σ H o i v ov iv u Q I r1 r2 r3 h
  rcases h with h | ⟨p, H', rfl, hd, q⟩
  · exact set_list pins s σ H o i v ov iv u Q I r1 r2 r3 h
  · cases (show ov = Value.ref p from r1)
    exact d_setItem hu I hd r2 r3 fun s' I' => ⟨H', I', q⟩
theorem ip_of {op : Operator} {r : R2} (h : OpR X (inplaceOp op) r) : PIp X op r := fun pins s σ H x y v u Q I a b q => h pins s σ H x y v u Q I a b q
/-- repr of data -/
def rRepr (K : PySem.W.Frag) : List V → Hp → VK → Prop := fun xs H Q => ∃ v d, xs = [v] ∧ Dp K H v d ∧ d.showable = true ∧ d.canLay0 = true ∧ d.depth ≤ 60 ∧ d.shown.length ≤ sizeLine ∧ Q (.str d.shown) H
theorem cr_repr (hg : X.A.guards = some []) (hu : X.A.units + 64 < cLine) : CallR X (.builtin "repr") (rRepr X.K) := by
  intro pins s σ H xs us Q I r h
  obtain ⟨v, d, rfl, hd, hs, hc, hp, hz, q⟩ := h
  obtain ⟨u, rfl, ru⟩ := vals1 r
  obtain ⟨as, rd⟩ := Dp.reads I d v u hd ru
  cases hd with
  | non =>
    cases (show u = Value.none from ru)
    refine PySem.P.repr_of_none ⟨.str _, H, I.tok _, ⟨_, rfl⟩, ?_⟩
    simpa only [PyData.shown] using q
  | bl b =>
    cases (show u = Value.bool b from ru)
    refine PySem.P.repr_of_bool ⟨.str _, H, I.tok _, ⟨_, rfl⟩, ?_⟩
    simpa only [PyData.shown] using q
  | int i =>
    obtain ⟨t, rfl⟩ := ru
    refine PySem.P.repr_of_int (by simpa [PyData.showable] using hs) ⟨.str _, H, I.tok _, ⟨_, rfl⟩, ?_⟩
    simpa only [PyData.shown] using q
  | str x =>
    obtain ⟨t, rfl⟩ := ru
    refine PySem.P.repr_of_str ⟨.str _, H, I.tok _, ⟨_, rfl⟩, ?_⟩ (by simpa only [PyData.shown] using hz)
    simpa only [PyData.shown] using q
  | lst h1 h2 =>
    rename_i a ys ds
    cases (show u = Value.ref a from ru)
    exact repr_of_reads' rd hs (PyData.noDict_hsm (PyData.hasDict_of_canLay _ hc)) hg (by omega) (fun _ _ e => e) (fun h' u tk k => ⟨.str _, H, I.kept k, ⟨_, rfl⟩, q⟩) hz
  | tup h1 h2 =>
    rename_i a ys ds
    cases (show u = Value.ref a from ru)
    exact repr_of_reads' rd hs (PyData.noDict_hsm (PyData.hasDict_of_canLay _ hc)) hg (by omega) (fun _ _ e => e) (fun h' u tk k => ⟨.str _, H, I.kept k, ⟨_, rfl⟩, q⟩) hz
/-- len -/
def uLen (K : PySem.W.Frag) : List V → Hp → VK → Prop := fun xs H Q => (∃ x n, xs = [x] ∧ LenV K x H n ∧ Q (.int n) H) ∨ ∃ d kvs, xs = [.ref d] ∧ H d = some (.dK kvs) ∧ Q (.int (kvs.length : Nat)) H
theorem cr_len : CallR X (.builtin "len") (uLen X.K) := call_len.or call_lenD
/-- a constant of the module -/
theorem pe_globI {x : Str} {i : Int} {pos : Pos} (hg : Gl X x) (hm : ∃ t, X.mg x = some (.int i t)) (hd : (x == ("__debug__" : Str)) = false := by decide) : PE X (.Name x pos) (tC (.int i)) := by
  obtain ⟨t, hm⟩ := hm
  exact pe_glob hg hm ⟨t, rfl⟩ hd
theorem pe_globS {x z : Str} {pos : Pos} (hg : Gl X x) (hm : ∃ t, X.mg x = some (.str z t)) (hd : (x == ("__debug__" : Str)) = false := by decide) : PE X (.Name x pos) (tC (.str z)) := by
  obtain ⟨t, hm⟩ := hm
  exact pe_glob hg hm ⟨t, rfl⟩ hd
/-- o[i] -/
def uIx (K : PySem.W.Frag) : R2 := rIx K
theorem ix_any : IxR X (uIx X.K) := ix_seq
/-- slices of lists, tuples, texts -/
def uSl (K : PySem.W.Frag) : V → Option Int → Option Int → Hp → VK → Prop := fun x lo hi H Q => rSlL K x lo hi H Q ∨ rSlT K x lo hi H Q
theorem sl_any : SlR X (uSl X.K) := sl_list.or sl_tup
end
/-! ### readings, step by step -/
section
variable {K : PySem.W.Frag} {σ : L2.St} {H : Hp} {Q : VK} {D : Ends} {t u : TS} {te ta tb tc : TE} {tt : TT} {Rs : List Res} {E : XK}
theorem g_seq (k : t { D with nx := u D } σ H) : tSeq t u D σ H := k
theorem g_next (k : D.nx σ H) : tNext D σ H := k
theorem g_asg {i : Nat} (k : te σ H fun x H1 => D.nx (σ.set i (some x)) H1) : tAsg te (gName i) D σ H := k
theorem g_asgX {g : TG} (k : te σ H fun x H1 => g x σ H1 D.nx) : tAsg te g D σ H := k
theorem g_drop (k : te σ H fun _ H1 => D.nx σ H1) : tDrop te D σ H := k
theorem g_ret (k : te σ H D.rt) : tRet te D σ H := k
theorem g_retN (k : D.rt .non H) : tRetN D σ H := k
theorem g_if (k : tt σ H fun b H1 => if b = true then t D σ H1 else u D σ H1) : tIfS tt t u D σ H := k
theorem g_nx {f r b c} (k : f σ H) : (Ends.mk f r b c).nx σ H := k
theorem g_rt {f b c} {r : VK} {v : V} (k : r v H) : (Ends.mk f r b c).rt v H := k
theorem g_bk {f b c} {r : VK} (k : b σ H) : (Ends.mk f r b c).bk σ H := k
theorem g_ct {f b c} {r : VK} (k : c σ H) : (Ends.mk f r b c).ct σ H := k
theorem g_var {i : Nat} {v : V} (h : σ[i]? = some (some v)) (k : Q v H) : tVar i σ H Q := ⟨v, h, k⟩
theorem g_c {v : V} (k : Q v H) : tC v σ H Q := k
theorem g_op {r : R2} (k : ta σ H fun x H1 => tb σ H1 fun y H2 => r x y H2 Q) : tOp r ta tb σ H Q := k
theorem g_un {r : V → Hp → VK → Prop} (k : ta σ H fun x H1 => r x H1 Q) : tUn r ta σ H Q := k
theorem g_nil {Q : List V → Hp → Prop} (k : Q [] H) : tNil σ H Q := k
theorem g_cons {tr : TA} {Q : List V → Hp → Prop} (k : ta σ H fun x H1 => tr σ H1 fun xs H2 => Q (x :: xs) H2) : tCons ta tr σ H Q := k
theorem g_cb {r : List V → Hp → VK → Prop} {t : TA} (k : t σ H fun vs H1 => r vs H1 Q) : tCB r t σ H Q := k
theorem g_call {sp : Sp} {dvs : List V} {t : TA} (k : t σ H fun vs H1 => sp (vs ++ dvs) H1 Q E) : tCall sp dvs E t σ H Q := k
def LstK (Q : VK) : List V → Hp → Prop := fun xs H1 => xs.length ≤ sizeLine ∧ ∀ p, H1 p = none → Q (.ref p) (upd H1 p (.lst xs))
def TupK (Q : VK) : List V → Hp → Prop := fun xs H1 => xs.length ≤ sizeLine ∧ ∀ p, H1 p = none → Q (.ref p) (upd H1 p (.tup xs))
theorem g_lst {t : TA} (k : t σ H (LstK Q)) : tLst t σ H Q := k
theorem g_tup {t : TA} (k : t σ H (TupK Q)) : tTup t σ H Q := k
/-- a display is laid -/
theorem v_lst {xs : List V} (S : M Rs H) (hn : xs.length ≤ 100000) (k : ∀ p H', M (pt p (.lst xs) :: Rs) H' → Q (.ref p) H') : LstK Q xs H :=
  ⟨Nat.le_trans hn (by decide), fun p hp => k p _ (S.new hp)⟩
theorem v_tup {xs : List V} (S : M Rs H) (hn : xs.length ≤ 100000) (k : ∀ p H', M (pt p (.tup xs) :: Rs) H' → Q (.ref p) H') : TupK Q xs H :=
  ⟨Nat.le_trans hn (by decide), fun p hp => k p _ (S.new hp)⟩
theorem g_test {Q : Bool → Hp → Prop} (k : te σ H fun x H' => ∃ b, x = .bl b ∧ Q b H') : tTest te σ H Q := k
theorem g_B {Q : Bool → Hp → Prop} (k : te σ H fun x H' => ∃ b, x = .bl b ∧ Q b H') : tB te σ H Q := k
theorem g_bl {b : Bool} {Q : Bool → Prop} (k : Q b) : ∃ c, V.bl b = .bl c ∧ Q c := ⟨b, rfl, k⟩
theorem g_and {s : TT} {Q : Bool → Hp → Prop} (k : tt σ H fun c H1 => if c = true then s σ H1 Q else Q false H1) : tAnd tt s σ H Q := k
theorem g_or {s : TT} {Q : Bool → Hp → Prop} (k : tt σ H fun c H1 => if c = true then Q true H1 else s σ H1 Q) : tOr tt s σ H Q := k
theorem g_not {Q : Bool → Hp → Prop} (k : tt σ H fun c H1 => Q (!c) H1) : tNot tt σ H Q := k
theorem g_andV (k : ta σ H fun x H1 => ∃ c, x = .bl c ∧ if c = true then tb σ H1 Q else Q (.bl false) H1) : tAndV ta tb σ H Q := k
theorem g_orV (k : ta σ H fun x H1 => ∃ c, x = .bl c ∧ if c = true then Q (.bl true) H1 else tb σ H1 Q) : tOrV ta tb σ H Q := k
theorem g_notV (k : ta σ H fun x H1 => ∃ c, x = .bl c ∧ Q (.bl (!c)) H1) : tNotV ta σ H Q := k
theorem g_ifE (k : tt σ H fun c H1 => if c = true then ta σ H1 Q else tb σ H1 Q) : tIf tt ta tb σ H Q := k
theorem g_chain {r r' : R2} (k : ta σ H fun x H1 => tb σ H1 fun y H2 => r x y H2 fun z H3 => ∃ k, z = .bl k ∧ (if k = true then tc σ H3 fun w' H4 => r' y w' H4 Q else Q (.bl false) H3)) : tChain r r' ta tb tc σ H Q := k
theorem g_aug {i : Nat} {ti : TIp} {v : V} (h : σ[i]? = some (some v)) (k : te σ H fun y H1 => ti v y H1 fun z H2 => D.nx (σ.set i (some z)) H2) : tAug i te ti D σ H := ⟨v, h, k⟩
theorem g_augS {tget : V → V → Hp → VK → Prop} {tip : TIp} {tset : TSet} (k : ta σ H fun o H1 => tb σ H1 fun i H2 => tget o i H2 fun x H3 => te σ H3 fun y H4 => tip x y H4 fun z H5 => tset o i z H5 fun H6 => D.nx σ H6) :
    tAugS ta tb te tget tip tset D σ H := k
theorem g_sub {t3 : TSet} {v : V} {Q : L2.St → Hp → Prop} (k : ta σ H fun o H1 => tb σ H1 fun i H2 => t3 o i v H2 fun H3 => Q σ H3) : gSub ta tb t3 v σ H Q := k
theorem g_sl {r : V → Option Int → Option Int → Hp → VK → Prop} {tl th : TO} (k : te σ H fun x H1 => tl σ H1 fun l H2 => th σ H2 fun u H3 => r x l u H3 Q) : tSl r te tl th σ H Q := k
theorem g_noPart {Q : Option Int → Hp → Prop} (k : Q none H) : tNoPart σ H Q := k
theorem g_part {Q : Option Int → Hp → Prop} (k : te σ H fun x H1 => ∃ i, x = .int i ∧ Q (some i) H1) : tPart te σ H Q := k
theorem g_int {i : Int} {Q : Int → Prop} (k : Q i) : ∃ j, V.int i = .int j ∧ Q j := ⟨i, rfl, k⟩
/-! values -/
theorem v_add {i j : Int} (k : Q (.int (i + j)) H) : uAdd K (.int i) (.int j) H Q := .inl ⟨i, j, rfl, rfl, k⟩
theorem v_sub {i j : Int} (k : Q (.int (i - j)) H) : uSub (.int i) (.int j) H Q := ⟨i, j, rfl, rfl, k⟩
theorem v_mul {i j : Int} (h : CMul i j ∨ CMulW i j) (k : Q (.int (i * j)) H) : uMul (.int i) (.int j) H Q := h.elim (fun h => .inl ⟨i, j, rfl, rfl, h, k⟩) fun h => .inr (.inl ⟨i, j, rfl, rfl, h, k⟩)
theorem v_mod {i j : Int} (h : 0 < j) (k : Q (.int (i % j)) H) : uMod (.int i) (.int j) H Q := ⟨i, j, rfl, rfl, h, k⟩
theorem div_ok {i j : Int} (h : 0 < j ∧ j < 2 ^ 64) : CDivW i j := wide_div (b := 64) h.1 (by omega) (by decide) (by decide)
theorem v_div {i j : Int} (h : 0 < j ∧ j < 2 ^ 64) (k : Q (.int (i / j)) H) : uDiv (.int i) (.int j) H Q := ⟨i, j, rfl, rfl, div_ok h, k⟩
theorem v_iadd {i j : Int} (k : Q (.int (i + j)) H) : iAdd (.int i) (.int j) H Q := .inl ⟨i, j, rfl, rfl, k⟩
theorem v_isub {i j : Int} (k : Q (.int (i - j)) H) : iSub (.int i) (.int j) H Q := ⟨i, j, rfl, rfl, k⟩
theorem v_imul {i j : Int} (h : CMul i j) (k : Q (.int (i * j)) H) : iMul (.int i) (.int j) H Q := ⟨i, j, rfl, rfl, h, k⟩
theorem v_idiv {i j : Int} (h : CDiv i j) (k : Q (.int (i / j)) H) : iDiv (.int i) (.int j) H Q := ⟨i, j, rfl, rfl, h, k⟩
theorem v_lt {i j : Int} (k : Q (.bl (decide (i < j))) H) : uLt (.int i) (.int j) H Q := ⟨i, j, rfl, rfl, k⟩
theorem v_le {i j : Int} (k : Q (.bl (decide (i ≤ j))) H) : uLe (.int i) (.int j) H Q := ⟨i, j, rfl, rfl, k⟩
theorem v_gt {i j : Int} (k : Q (.bl (decide (j < i))) H) : uGt (.int i) (.int j) H Q := ⟨i, j, rfl, rfl, k⟩
theorem v_ge {i j : Int} (k : Q (.bl (decide (j ≤ i))) H) : uGe (.int i) (.int j) H Q := ⟨i, j, rfl, rfl, k⟩
theorem v_eqI {i j : Int} (k : Q (.bl (decide (i = j))) H) : uEq K (.int i) (.int j) H Q := .inl ⟨rfl, by
  have e : decide (V.int i = V.int j) = decide (i = j) := decide_eq_decide.mpr ⟨fun h => V.int.inj h, fun h => by rw [h]⟩
  rw [e]
  exact k⟩
theorem v_neI {i j : Int} (k : Q (.bl (!decide (i = j))) H) : uNe K (.int i) (.int j) H Q := .inl ⟨rfl, by
  have e : decide (V.int i = V.int j) = decide (i = j) := decide_eq_decide.mpr ⟨fun h => V.int.inj h, fun h => by rw [h]⟩
  rw [e]
  exact k⟩
theorem v_eqS {i j : Str} (k : Q (.bl (decide (i = j))) H) : uEq K (.str i) (.str j) H Q := .inl ⟨rfl, by
  have e : decide (V.str i = V.str j) = decide (i = j) := decide_eq_decide.mpr ⟨fun h => V.str.inj h, fun h => by rw [h]⟩
  rw [e]
  exact k⟩
theorem v_eqB {i j : Bool} (k : Q (.bl (decide (i = j))) H) : uEq K (.bl i) (.bl j) H Q := .inl ⟨rfl, by
  have e : decide (V.bl i = V.bl j) = decide (i = j) := decide_eq_decide.mpr ⟨fun h => V.bl.inj h, fun h => by rw [h]⟩
  rw [e]
  exact k⟩
theorem v_neB {i j : Bool} (k : Q (.bl (!decide (i = j))) H) : uNe K (.bl i) (.bl j) H Q := .inl ⟨rfl, by
  have e : decide (V.bl i = V.bl j) = decide (i = j) := decide_eq_decide.mpr ⟨fun h => V.bl.inj h, fun h => by rw [h]⟩
  rw [e]
  exact k⟩
theorem v_eqD {x y : V} {d e : PyData} (h1 : Dp K H x d) (h2 : Dp K H y e) (s1 : SeqAt.shaped d = true) (s2 : SeqAt.shaped e = true) (k : Q (.bl (PyData.eqv d e)) H) : uEq K x y H Q := .inr ⟨d, e, h1, h2, s1, s2, k⟩
theorem v_neD {x y : V} {d e : PyData} (h1 : Dp K H x d) (h2 : Dp K H y e) (s1 : SeqAt.shaped d = true) (s2 : SeqAt.shaped e = true) (k : Q (.bl (!PyData.eqv d e)) H) : uNe K x y H Q := .inr ⟨d, e, h1, h2, s1, s2, k⟩
theorem v_ixL {p : Addr} {xs : List V} {i : Int} {v : V} (h : SqL K H p xs) (ha : atI xs i = some v) (k : Q v H) : uIx K (.ref p) (.int i) H Q := .inl ⟨p, xs, i, v, rfl, rfl, h, ha, k⟩
theorem v_ixT {p : Addr} {xs : List V} {i : Int} {v : V} (h : SqT K H p xs) (ha : atI xs i = some v) (k : Q v H) : uIx K (.ref p) (.int i) H Q := .inr (.inl ⟨p, xs, i, v, rfl, rfl, h, ha, k⟩)
theorem v_get {p : Addr} {xs : List V} {n : Int} {v : V} (h : SqL K H p xs) (h0 : 0 ≤ n) (ha : xs[n.toNat]? = some v) (k : Q v H) : gIx K (.ref p) (.int n) H Q := .inl ⟨p, xs, n, v, rfl, rfl, h, h0, ha, k⟩
theorem ixN_int {n : Nat} {i : Int} (h0 : 0 ≤ i) (h1 : i < n) : ixN n i = some i.toNat := by
  unfold ixN
  rw [if_pos h0, if_pos h1]
theorem atI_int {α : Type} {xs : List α} {i : Int} {v : α} (h0 : 0 ≤ i) (h : xs[i.toNat]? = some v) : atI xs i = some v := by
  have hl := (List.getElem?_eq_some_iff.mp h).1
  unfold atI
  rw [ixN_int h0 (by omega)]
  exact h
theorem atI_ints {ns : List Int} {i : Int} (h0 : 0 ≤ i) (h1 : i < ns.length) : atI (ns.map V.int) i = some (.int (ns.getD i.toNat 0)) := by
  refine atI_int h0 ?_
  have hl : i.toNat < ns.length := by omega
  rw [List.getElem?_map, List.getElem?_eq_getElem hl, List.getD_eq_getElem?_getD, List.getElem?_eq_getElem hl]
  rfl
theorem ixN_nat {n j : Nat} (hj : j < n) : ixN n (j : Int) = some j := by
  unfold ixN
  rw [if_pos (Int.natCast_nonneg j), if_pos (by omega)]
  simp
/-- xs[j] = v, the list owned -/
theorem v_set {p : Addr} {xs : List V} {n : Int} {j : Nat} {v : V} {Q : Hp → Prop} (S : M Rs H) (i : Nat) (e : Rs[i]? = some (pt p (.lst xs))) (hj : ixN xs.length n = some j) (k : ∀ H', M (Rs.set i (pt p (.lst (xs.set j v)))) H' → Q H') :
    uSet (.ref p) (.int n) v H Q := .inl ⟨p, xs, n, j, rfl, rfl, S.got i e, hj, k _ (S.putAt i e)⟩
theorem v_cat {a b : Addr} {xs ys : List V} (S : M Rs H) (h1 : H a = some (.lst xs)) (h2 : H b = some (.lst ys)) (hz : xs.length + ys.length ≤ 100000) (k : ∀ p H', M (pt p (.lst (xs ++ ys)) :: Rs) H' → Q (.ref p) H') : uAdd K (.ref a) (.ref b) H Q :=
  .inr (.inr (.inl ⟨a, b, xs, ys, rfl, rfl, SqL.of h1, SqL.of h2, Nat.le_trans hz (by decide), fun p hp => k p _ (S.new hp)⟩))
theorem v_catS {a b : Addr} {xs ys : List V} (S : M Rs H) (h1 : SqL K H a xs) (h2 : SqL K H b ys) (hz : xs.length + ys.length ≤ 100000) (k : ∀ p H', M (pt p (.lst (xs ++ ys)) :: Rs) H' → Q (.ref p) H') : uAdd K (.ref a) (.ref b) H Q :=
  .inr (.inr (.inl ⟨a, b, xs, ys, rfl, rfl, h1, h2, Nat.le_trans hz (by decide), fun p hp => k p _ (S.new hp)⟩))
theorem v_slL {a : Addr} {xs : List V} {lo hi : Option Int} (S : M Rs H) (h : SqL K H a xs) (k : ∀ p H', M (pt p (.lst (cutV xs lo hi)) :: Rs) H' → Q (.ref p) H') : uSl K (.ref a) lo hi H Q :=
  .inl ⟨a, xs, rfl, h, fun p hp => k p _ (S.new hp)⟩
def RevK (K : PySem.W.Frag) (Q : VK) : VK := fun x H1 => ∃ a xs, x = .ref a ∧ SqL K H1 a xs ∧ ∀ p, H1 p = none → Q (.ref p) (upd H1 p (.lst xs.reverse))
theorem g_rev (k : te σ H (RevK K Q)) : tRevL K te σ H Q := k
theorem v_rev {a : Addr} {xs : List V} (S : M Rs H) (h : SqL K H a xs) (k : ∀ p H', M (pt p (.lst xs.reverse) :: Rs) H' → Q (.ref p) H') : RevK K Q (.ref a) H :=
  ⟨a, xs, rfl, h, fun p hp => k p _ (S.new hp)⟩
theorem v_lenL {a : Addr} {xs : List V} (h : SqL K H a xs) (k : Q (.int (xs.length : Nat)) H) : uLen K [.ref a] H Q := .inl ⟨_, _, rfl, .inl ⟨xs, h, rfl⟩, k⟩
/-- xs.append(v) -/
theorem g_bm {T : String} {r : V → List V → Hp → VK → Prop} {t : TA} (k : te σ H fun x H1 => tyV K T x H1 ∧ t σ H1 fun xs H2 => r x xs H2 Q) : tBM K T r te t σ H Q := k
theorem g_bm0 {T : String} {r : V → List V → Hp → VK → Prop} (k : te σ H fun x H1 => tyV K T x H1 ∧ r x [] H1 Q) : tBM0 K T r te σ H Q := k
theorem v_tyL {a : Addr} {xs : List V} {φ : Prop} (h : SqL K H a xs) (k : φ) : tyV K "list" (.ref a) H ∧ φ := ⟨.inl ⟨rfl, xs, h⟩, k⟩
theorem v_app {p : Addr} {xs : List V} {v : V} (S : M Rs H) (i : Nat) (e : Rs[i]? = some (pt p (.lst xs))) (hz : xs.length < 100000) (k : ∀ H', M (Rs.set i (pt p (.lst (xs ++ [v])))) H' → Q .non H') : rAppend (.ref p) [v] H Q :=
  ⟨p, xs, v, rfl, rfl, S.got i e, Nat.lt_of_lt_of_le hz (by decide), k _ (S.putAt i e)⟩
theorem v_if {b : Bool} {A B : Prop} (h1 : b = true → A) (h2 : b = false → B) : if b = true then A else B := by
  cases b with
  | true => exact h1 rfl
  | false => exact h2 rfl
theorem v_ifD {c : Prop} [Decidable c] {A B : Prop} (h1 : c → A) (h2 : ¬ c → B) : if decide c = true then A else B := by
  by_cases h : c
  · rw [decide_eq_true h]
    exact h1 h
  · rw [decide_eq_false h]
    exact h2 h
theorem v_ifN {c : Prop} [Decidable c] {A B : Prop} (h1 : ¬ c → A) (h2 : c → B) : if (!decide c) = true then A else B := by
  by_cases h : c
  · rw [decide_eq_true h]
    exact h2 h
  · rw [decide_eq_false h]
    exact h1 h
theorem v_ifT {A B : Prop} (k : A) : if true = true then A else B := k
theorem v_ifF {A B : Prop} (k : B) : if false = true then A else B := k
end
end RC
namespace RC
open PySem PySem.Spec PyProof.Rows L2
/-- the function object at an address -/
def fdOf (K : PySem.W.Frag) (f : Addr) : FuncData := match K.lookup f with
  | some ⟨_, _, .func fd, _⟩ => fd
  | _ => PySem.W.fnOf "" "" ⟨[], [], none, [], [], none, []⟩ [] ⟨.function, [], false, false, []⟩ .none .none .none .none none .none .none
theorem fd_of {K : PySem.W.Frag} {x q : Str} {ar : Arguments} {bd : List Stmt} {sc : Scope} {dvs : List V} {kws : List (Str × V)} {f : Addr} (h : ∃ fd, FunD K x q ar bd sc dvs kws f fd) : FunD K x q ar bd sc dvs kws f (fdOf K f) := by
  obtain ⟨fd, F⟩ := h
  have e : fdOf K f = fd := by
    obtain ⟨⟨oc, od, dV, kV, doc, pm, an, cdv, ct, osl, rfl, lk, _, _, _⟩, _⟩ := F
    unfold fdOf
    rw [lk]
  rw [e]
  exact F
/-- a list that may be read for ever -/
def rdL (K : PySem.W.Frag) (a : Addr) (xs : List V) : Res := ⟨fun F l => l = [] ∧ SqL K F a xs, fun _ _ _ e h => ⟨h.1, e.sqL h.2⟩⟩
theorem M.start {K : PySem.W.Frag} {H : Hp} {a : Addr} {xs : List V} (h : SqL K H a xs) : M [rdL K a xs] H :=
  ⟨H, [], ⟨[], [], rfl, ⟨rfl, h⟩, rfl⟩, ⟨Ext.refl H, (fun _ h => nomatch h), List.nodup_nil⟩⟩
theorem M.gotR {K : PySem.W.Frag} {Rs : List Res} {H : Hp} {a : Addr} {xs : List V} (h : M Rs H) (i : Nat) (e : Rs[i]? = some (rdL K a xs)) : SqL K H a xs := by
  obtain ⟨F, L, ⟨l1, l2, rfl, ⟨_, q⟩, b⟩, m⟩ := h.at i e
  exact m.ex.sqL q
/-- what the resources bring about -/
def Ent (Rs : List Res) (φ : Hp → Prop) : Prop := ∀ H, M Rs H → φ H
def rAbs : List V → Hp → VK → Prop := fun xs H Q => ∃ i, xs = [.int i] ∧ Q (.int (if i < 0 then -i else i)) H
theorem cr_abs {X : Cx} : CallR X (.builtin "abs") rAbs := call_abs
def rListOf (K : PySem.W.Frag) : List V → Hp → VK → Prop := fun xs H Q => ∃ p ys, xs = [.ref p] ∧ (SqL K H p ys ∨ SqT K H p ys) ∧ ∀ l, H l = none → Q (.ref l) (upd H l (.lst ys))
theorem cr_list {X : Cx} : CallR X (.type "list") (rListOf X.K) := call_list_of
theorem v_abs {i : Int} {H : Hp} {Q : VK} (k : Q (.int (if i < 0 then -i else i)) H) : rAbs [.int i] H Q := ⟨i, rfl, k⟩
theorem v_list {K : PySem.W.Frag} {Rs : List Res} {H : Hp} {Q : VK} {a : Addr} {xs : List V} (S : M Rs H) (h : SqL K H a xs ∨ SqT K H a xs) (k : ∀ p H', M (pt p (.lst xs) :: Rs) H' → Q (.ref p) H') : rListOf K [.ref a] H Q :=
  ⟨a, xs, rfl, h, fun p hp => k p _ (S.new hp)⟩
def rIsN : R2 := fun x y H Q => y = .non ∧ Q (.bl (decide (x = .non))) H
def rNotN : R2 := fun x y H Q => y = .non ∧ Q (.bl (!decide (x = .non))) H
end RC
namespace RC
open PySem PySem.Spec PyProof.Rows L2
/-! ### loops -/
def ForW (J : It) (g : TG) (tb : TS) (D : Ends) (σ : L2.St) (H1 : Hp) : Prop := ∃ W : Nat → Nat → L2.St → Hp → Prop, (∃ m, W 0 m σ H1) ∧ ∀ i m σ H, W i m σ H →
  (J.stop i H ∧ D.nx σ H) ∨ (J.go i H ∧ ∃ N : L2.St → Hp → Prop, (∀ σ' H', N σ' H' → ∃ m', m' < m ∧ W (i + 1) m' σ' H') ∧ ∀ x H', J.yld i H x H' → g x σ H' fun σ2 H2 => tb { D with nx := N, ct := N, bk := D.nx } σ2 H2)
def LcW (J : It) (g : TG) (tt : TT) (te : TE) (vs : List Nat) (σ : L2.St) (Q : VK) (H1 : Hp) : Prop := ∀ D, H1 D = none → ∃ W : Nat → Nat → Hp → Prop, (∃ m, W 0 m (upd H1 D (.lst []))) ∧ ∀ i m H, W i m H →
  (J.stop i H ∧ Q (.ref D) H) ∨ (J.go i H ∧ ∃ Nx : Hp → Prop, (∀ H', Nx H' → ∃ m', m' < m ∧ W (i + 1) m' H') ∧ ∀ x H', J.yld i H x H' → g x (wipe σ vs) H' fun σ2 H2 => wipe σ2 vs = wipe σ vs ∧ tt σ2 H2 fun b H3 =>
    if b = true then te σ2 H3 fun y H4 => ∃ acc, H4 D = some (.lst acc) ∧ acc.length < sizeLine ∧ Nx (upd H4 D (.lst (acc ++ [y]))) else Nx H3)
section
variable {K : PySem.W.Frag} {σ : L2.St} {H : Hp} {Q : VK} {D : Ends} {tb : TS} {te tl : TE} {ta : TA} {tt : TT} {g : TG} {vs : List Nat} {wi : TI} {J : It} {R : It → Hp → Prop} {a : Addr} {xs : List V} {Rs : List Res}
theorem g_for (k : wi σ H fun J H1 => ForW J g tb D σ H1) : tFor wi g tb D σ H := k
theorem g_lc (k : wi σ H fun J H1 => LcW J g tt te vs σ Q H1) : tLc wi g tt te vs σ H Q := k
def ItL (K : PySem.W.Frag) (R : It → Hp → Prop) : VK := fun x H1 => ∃ a, x = .ref a ∧ (∃ xs, SqL K H1 a xs) ∧ R (Itl K a) H1
def ItR (R : It → Hp → Prop) : List V → Hp → Prop := fun vs H1 => ∃ j : Int, vs = [.int j] ∧ -(2 ^ 62) ≤ j ∧ j < 2 ^ 62 ∧ R (Itr 0 j.toNat) H1
def ItV (K : PySem.W.Frag) (R : It → Hp → Prop) : List V → Hp → Prop := fun vs H1 => ∃ (a : Addr) (xs : List V), vs = [.ref a] ∧ SqL K H1 a xs ∧ R (Itv K a xs.length) H1
theorem g_iList (k : tl σ H (ItL K R)) : iList K tl σ H R := k
theorem v_itL (h : SqL K H a xs) (k : R (Itl K a) H) : ItL K R (.ref a) H := ⟨a, rfl, ⟨xs, h⟩, k⟩
theorem g_iRng1 (k : ta σ H (ItR R)) : iRng1 ta σ H R := k
theorem v_itR {j : Int} (h : -(2 ^ 62) ≤ j ∧ j < 2 ^ 62) (k : R (Itr 0 j.toNat) H) : ItR R [V.int j] H := ⟨j, rfl, h.1, h.2, k⟩
theorem g_iRev (k : ta σ H (ItV K R)) : iRev K ta σ H R := k
theorem v_itV (h : SqL K H a xs) (k : R (Itv K a xs.length) H) : ItV K R [V.ref a] H := ⟨a, xs, rfl, h, k⟩
/-- a for, by a word of the turn, the slots and the heap -/
theorem for_W {n : Nat} {G : Hp → Prop} {Y : Nat → Hp → V → Hp → Prop} (w : Walk J n G Y) (Pv : Nat → L2.St → Hp → Prop) (h0 : Pv 0 σ H) (hG : ∀ i σ H, i ≤ n → Pv i σ H → G H)
    (hs : ∀ i x σ H H', i < n → Pv i σ H → Y i H x H' → g x σ H' fun σ2 H2 => tb { D with nx := Pv (i + 1), ct := Pv (i + 1), bk := D.nx } σ2 H2) (hd : ∀ σ H, Pv n σ H → D.nx σ H) : ForW J g tb D σ H := for_it w Pv h0 hG hs hd
/-- a comprehension: P of the turn and the items so far; the resources Rs stand at each turn -/
def PvM (P : Nat → List V → Prop) (E : Addr) (Rs : List Res) (i : Nat) (H : Hp) : Prop := ∃ acc, P i acc ∧ M (pt E (.lst acc) :: Rs) H
def LcK (N : Hp → Prop) (E : Addr) : VK := fun y H4 => ∃ acc, H4 E = some (.lst acc) ∧ acc.length < sizeLine ∧ N (upd H4 E (.lst (acc ++ [y])))
theorem lc_W {n : Nat} {G : Hp → Prop} {Y : Nat → Hp → V → Hp → Prop} (w : Walk J n G Y) (S : M Rs H) (P : Nat → List V → Prop) (h0 : P 0 []) (hG : ∀ H, M Rs H → G H)
    (hs : ∀ i x acc E H H', i < n → P i acc → M (pt E (.lst acc) :: Rs) H → Y i H x H' → g x (wipe σ vs) H' fun σ2 H2 => wipe σ2 vs = wipe σ vs ∧ tt σ2 H2 fun b H3 => if b = true then te σ2 H3 (LcK (PvM P E Rs (i + 1)) E) else PvM P E Rs (i + 1) H3)
    (hd : ∀ E acc H, P n acc → M (pt E (.lst acc) :: Rs) H → Q (.ref E) H) : LcW J g tt te vs σ Q H := by
  intro E hE
  refine lc_it w (PvM P E Rs) ⟨[], h0, S.new hE⟩ (fun i H _ ⟨acc, _, S⟩ => hG H S.tl) (fun i x H H' hi ⟨acc, hp, S⟩ y => hs i x acc E H H' hi hp S y) fun H ⟨acc, hp, S⟩ => hd E acc H hp S
theorem lc_next {N : Hp → Prop} {E : Addr} {y : V} {acc : List V} (S : M Rs H) (i : Nat) (e : Rs[i]? = some (pt E (.lst acc))) (hz : acc.length < 100000) (k : ∀ H', M (Rs.set i (pt E (.lst (acc ++ [y])))) H' → N H') : LcK N E y H :=
  ⟨acc, S.got i e, Nat.lt_of_lt_of_le hz (by decide), k _ (S.putAt i e)⟩
theorem g_yes {Q : Bool → Hp → Prop} (k : Q true H) : tYes σ H Q := k
theorem g_name {i : Nat} {v : V} {Q : L2.St → Hp → Prop} (k : Q (σ.set i (some v)) H) : gName i v σ H Q := k
end
theorem ints_get {ns : List Int} {i : Nat} {x : V} (h : (ns.map V.int)[i]? = some x) : ∃ n, ns[i]? = some n ∧ x = .int n := by
  rw [List.getElem?_map] at h
  cases e : ns[i]? with
  | none =>
    rw [e] at h
    cases h
  | some n =>
    rw [e] at h
    exact ⟨n, rfl, (Option.some.inj h).symm⟩
theorem take_more {α : Type} {l : List α} {i : Nat} {x : α} (h : l[i]? = some x) : l.take (i + 1) = l.take i ++ [x] := by
  rw [List.take_add_one, h]
  rfl
end RC
namespace RC
open PySem PySem.Spec PyProof.Rows L2
theorem cut_to (xs : List V) (k : Nat) : cutV xs none (some (k : Int)) = xs.take k := by
  unfold cutV
  rw [HT.sIx_none, HT.sIx_nat, List.drop_zero, Nat.sub_zero]
  rcases Nat.le_total k xs.length with h | h
  · rw [Nat.min_eq_left h]
  · rw [Nat.min_eq_right h, List.take_of_length_le (Nat.le_refl _), List.take_of_length_le h]
theorem cut_from (xs : List V) (k : Nat) : cutV xs (some (k : Int)) none = xs.drop k := by
  unfold cutV
  rw [HT.sIx_none, HT.sIx_nat]
  rcases Nat.le_total k xs.length with h | h
  · rw [Nat.min_eq_left h, List.take_of_length_le]
    rw [List.length_drop]
    exact Nat.le_refl _
  · rw [Nat.min_eq_right h, List.drop_of_length_le h, List.drop_of_length_le (Nat.le_refl _), List.take_nil]
theorem cut_mid (xs : List V) (a b : Nat) : cutV xs (some (a : Int)) (some (b : Int)) = (xs.drop a).take (b - a) := by
  unfold cutV
  rw [HT.sIx_nat, HT.sIx_nat]
  rcases Nat.le_total a xs.length with h | h
  · rw [Nat.min_eq_left h]
    rcases Nat.le_total b xs.length with g | g
    · rw [Nat.min_eq_left g]
    · rw [Nat.min_eq_right g, List.take_of_length_le, List.take_of_length_le]
      · rw [List.length_drop]
        omega
      · rw [List.length_drop]
        exact Nat.le_refl _
  · rw [Nat.min_eq_right h, List.drop_of_length_le h, List.drop_of_length_le (Nat.le_refl _), List.take_nil, List.take_nil]
theorem g_wipe {a b : L2.St} {φ : Prop} (h : a = b) (k : φ) : a = b ∧ φ := ⟨h, k⟩
end RC
namespace RC
open PySem PySem.Spec PyProof.Rows L2
/-- all are ints of which P holds -/
def AllI (P : Int → Prop) : List V → Prop
  | [] => True
  | .int n :: r => P n ∧ AllI P r
  | _ => False
theorem AllI.get {P : Int → Prop} : ∀ {xs : List V}, AllI P xs → ∀ {j : Nat}, j < xs.length → ∃ n, P n ∧ xs[j]? = some (.int n)
  | [], _, j, h => absurd h (Nat.not_lt_zero _)
  | .int n :: r, h, 0, _ => ⟨n, h.1, rfl⟩
  | .int n :: r, h, j + 1, hj => by
    obtain ⟨m, a, b⟩ := AllI.get h.2 (Nat.lt_of_succ_lt_succ hj)
    exact ⟨m, a, by simpa using b⟩
  | .non :: _, h, _, _ => h.elim
  | .bl _ :: _, h, _, _ => h.elim
  | .str _ :: _, h, _, _ => h.elim
  | .byt _ :: _, h, _, _ => h.elim
  | .flt _ :: _, h, _, _ => h.elim
  | .ref _ :: _, h, _, _ => h.elim
  | .ty _ :: _, h, _, _ => h.elim
/-- one of a written menu of ints -/
theorem menuI {xs : List V} {v : Int} (P : Int → Prop) (h : AllI P xs) (h0 : 0 ≤ v) (h1 : v < xs.length) : ∃ n, P n ∧ atI xs v = some (.int n) := by
  obtain ⟨n, a, b⟩ := h.get (j := v.toNat) (by omega)
  exact ⟨n, a, atI_int h0 b⟩
/-- one of a written menu -/
theorem menu {xs : List V} {v : Int} (h0 : 0 ≤ v) (h1 : v < xs.length) : ∃ x, x ∈ xs ∧ atI xs v = some x := by
  have hl : v.toNat < xs.length := by omega
  exact ⟨xs[v.toNat], List.getElem_mem hl, atI_int h0 (List.getElem?_eq_getElem hl)⟩
theorem set_len {α : Type} {l : List α} {i : Nat} {x : α} : (l.set i x).length = l.length := List.length_set
theorem map_set {α β : Type} (f : α → β) (l : List α) (i : Nat) (x : α) : (l.map f).set i (f x) = (l.set i x).map f := (List.map_set).symm
end RC
namespace RC
theorem v_ifNT {A B : Prop} (k : B) : if (!true) = true then A else B := k
theorem v_ifNF {A B : Prop} (k : A) : if (!false) = true then A else B := k
end RC
namespace RC
open PySem PySem.Spec PyProof.Rows L2
/-- some of the resources, in another order -/
def Sub (Rs' Rs : List Res) : Prop := ∀ F L, Sat F Rs L → ∃ L1 L2, L.Perm (L1 ++ L2) ∧ Sat F Rs' L1
theorem Sub.refl (Rs : List Res) : Sub Rs Rs := fun _ L h => ⟨L, [], by rw [List.append_nil], h⟩
theorem Sub.nil (Rs : List Res) : Sub [] Rs := fun _ L _ => ⟨[], L, .refl _, rfl⟩
theorem Sub.cons {Rs Rs' : List Res} {R : Res} (i : Nat) (e : Rs[i]? = some R) (h : Sub Rs' (Rs.eraseIdx i)) : Sub (R :: Rs') Rs := by
  intro F L s
  obtain ⟨L0, p0, l1, l2, rfl, a, b⟩ := s.perm (perm_at i e)
  obtain ⟨L1, L2, p1, c⟩ := h F l2 b
  refine ⟨l1 ++ L1, L2, p0.trans ?_, l1, L1, rfl, a, c⟩
  rw [List.append_assoc]
  exact p1.append_left l1
theorem Sub.tl {Rs Rs' : List Res} {R : Res} (h : Sub Rs' Rs) : Sub Rs' (R :: Rs) := by
  rintro F L ⟨l1, l2, rfl, a, b⟩
  obtain ⟨L1, L2, p1, c⟩ := h F l2 b
  refine ⟨L1, l1 ++ L2, (p1.append_left l1).trans ?_, c⟩
  rw [← List.append_assoc, ← List.append_assoc]
  exact List.Perm.append_right _ List.perm_append_comm
theorem M.sub {Rs Rs' : List Res} {H : Hp} (q : Sub Rs' Rs) (h : M Rs H) : M Rs' H := by
  obtain ⟨F, L, a, m⟩ := h
  obtain ⟨L1, L2, p, b⟩ := q F L a
  have m2 := m.perm p
  refine ⟨F, L1, b, m2.ex, fun c hc => m2.own c (List.mem_append_left _ hc), ?_⟩
  have nd := m2.nd
  rw [List.map_append] at nd
  exact (List.nodup_append.mp nd).1
end RC
namespace RC
open PySem PySem.Spec PyProof.Rows L2
section
variable {X : Cx}
theorem units65 {k : Nat} {A : Around} (hr : Room k A) : A.units + 65 < cLine := by
  have := hr.un
  omega
def rDIn : R2 := fun x y H Q => ∃ a o, y = .ref a ∧ DGet H a x o ∧ Q (.bl o.isSome) H
def rDNotIn : R2 := fun x y H Q => ∃ a o, y = .ref a ∧ DGet H a x o ∧ Q (.bl (!o.isSome)) H
theorem op_din (hu : X.A.units + 1 < cLine) : OpR X (compareOp .In) rDIn := by
  intro pins s σ H x y v u Q I rx ry h
  obtain ⟨a, o, rfl, g, q⟩ := h
  cases (show u = Value.ref a from ry)
  exact d_in hu I g rx fun s' I' => ⟨.bl o.isSome, H, I', rfl, q⟩
theorem op_dnotin (hu : X.A.units + 1 < cLine) : OpR X (compareOp .NotIn) rDNotIn := by
  intro pins s σ H x y v u Q I rx ry h
  obtain ⟨a, o, rfl, g, q⟩ := h
  cases (show u = Value.ref a from ry)
  exact d_notIn hu I g rx fun s' I' => ⟨.bl (!o.isSome), H, I', rfl, q⟩
def rInS : R2 := fun x y H Q => ∃ i j, x = .str i ∧ y = .str j ∧ Q (.bl (!(Builtin.Str.occurrences j i 0 j.length 1).isEmpty)) H
def rNotInS : R2 := fun x y H Q => ∃ i j, x = .str i ∧ y = .str j ∧ Q (.bl (!(!(Builtin.Str.occurrences j i 0 j.length 1).isEmpty))) H
def uIn (K : PySem.W.Frag) : R2 := fun x y H Q => rIn K false x y H Q ∨ rInD K x y H Q ∨ rDIn x y H Q ∨ rInS x y H Q
def uNotIn (K : PySem.W.Frag) : R2 := fun x y H Q => rIn K true x y H Q ∨ rNotInD K x y H Q ∨ rDNotIn x y H Q ∨ rNotInS x y H Q
theorem uo_in {k : Nat} (hr : Room k X.A) : OpR X (compareOp .In) (uIn X.K) := op_in_seq.or ((op_inD (units65 hr)).or ((op_din (hu_of hr)).or op_in_str))
theorem uo_notin {k : Nat} (hr : Room k X.A) : OpR X (compareOp .NotIn) (uNotIn X.K) := op_notIn_seq.or ((op_notInD (units65 hr)).or ((op_dnotin (hu_of hr)).or op_notin_str))
theorem op_isN' : OpR X (compareOp .Is) rIsN := op_isN
theorem op_notN' : OpR X (compareOp .IsNot) rNotN := op_notN
end
section
variable {K : PySem.W.Frag} {σ : L2.St} {H : Hp} {Q : VK} {D : Ends} {Rs : List Res} {E : XK}
theorem v_neg {i : Int} (k : Q (.int (-i)) H) : rU (fun i => .int (-i)) (.int i) H Q := ⟨i, rfl, k⟩
theorem v_isN {x : V} (k : Q (.bl (decide (x = .non))) H) : rIsN x .non H Q := ⟨rfl, k⟩
theorem v_notN {x : V} (k : Q (.bl (!decide (x = .non))) H) : rNotN x .non H Q := ⟨rfl, k⟩
theorem g_par {i j : Nat} {ta : TA} (k : ta σ H fun vs H1 => ∃ v w, vs = [v, w] ∧ D.nx ((σ.set i (some v)).set j (some w)) H1) : tPar i j ta D σ H := k
theorem v_two {x y : V} {P : V → V → Prop} (k : P x y) : ∃ v w, [x, y] = [v, w] ∧ P v w := ⟨x, y, rfl, k⟩
theorem g_callN {n m : Nat} {sp : Sp} {gV : List V → List V → List V} {t tk : TA} (k : t σ H fun vs H1 => tk σ H1 fun zs H2 => vs.length = n ∧ zs.length = m ∧ sp (gV vs zs) H2 Q E) : tCallN n m sp gV E t tk σ H Q := k
theorem g_callP {n m l : Nat} {π : {α : Type} → List α → List α} {sp : Sp} {gV : List V → List V → List V} {t tk : TA} (k : t σ H fun vs H1 => tk σ H1 fun zs H2 => vs.length = n ∧ zs.length = m ∧ (gV vs zs).length = l ∧ sp (π (gV vs zs)) H2 Q E) : tCallP n m l π sp gV E t tk σ H Q := k
theorem v_lens {a b : List V} {n m : Nat} {P : Prop} (h1 : a.length = n) (h2 : b.length = m) (k : P) : a.length = n ∧ b.length = m ∧ P := ⟨h1, h2, k⟩
/-- a, b = t -/
theorem g_gtup {n : Nat} {t : TGs} {a : Addr} {xs : List V} {Q : L2.St → Hp → Prop} (h : SqT K H a xs) (hn : xs.length = n) (k : t xs σ H Q) : gTup K n t (.ref a) σ H Q := ⟨a, xs, rfl, h, hn, k⟩
theorem g_gnil {Q : L2.St → Hp → Prop} (k : Q σ H) : gNil [] σ H Q := ⟨rfl, k⟩
theorem g_gcons {t : TG} {u : TGs} {v : V} {r : List V} {Q : L2.St → Hp → Prop} (k : t v σ H fun σ' H' => u r σ' H' Q) : gCons t u (v :: r) σ H Q := ⟨v, r, rfl, k⟩
end
end RC
namespace RC
open PySem PySem.Spec PyProof.Rows L2
/-- a comprehension, by a word of the turn and the heap -/
theorem lc_X {H : Hp} {σ : L2.St} {Q : VK} {te : TE} {tt : TT} {g : TG} {vs : List Nat} {J : It} {n : Nat} {G : Hp → Prop} {Y : Nat → Hp → V → Hp → Prop} (w : Walk J n G Y) (Pv : Addr → Nat → Hp → Prop) (h0 : ∀ E, H E = none → Pv E 0 (upd H E (.lst [])))
    (hG : ∀ E i H, i ≤ n → Pv E i H → G H)
    (hs : ∀ E i x H H', i < n → Pv E i H → Y i H x H' → g x (wipe σ vs) H' fun σ2 H2 => wipe σ2 vs = wipe σ vs ∧ tt σ2 H2 fun b H3 => if b = true then te σ2 H3 (LcK (Pv E (i + 1)) E) else Pv E (i + 1) H3)
    (hd : ∀ E H, Pv E n H → Q (.ref E) H) : LcW J g tt te vs σ Q H := by
  intro E hE
  exact lc_it w (Pv E) (h0 E hE) (hG E) (hs E) (hd E)
end RC
namespace RC
open PySem PySem.Spec PyProof.Rows L2
section
variable {K : PySem.W.Frag} {σ : L2.St} {H : Hp} {Q : VK} {D : Ends} {Rs : List Res}
theorem v_pow {i j : Int} (h : 0 ≤ j ∧ j ≤ 1000000 ∧ i.natAbs < 2 ^ 64) (k : Q (.int (i ^ j.toNat)) H) : uPow (.int i) (.int j) H Q := ⟨i, j, rfl, rfl, h, k⟩
theorem v_rep {p : Addr} {xs : List V} {n : Int} (S : M Rs H) (h : H p = some (.lst xs)) (h1 : 0 ≤ n ∧ n < 1000) (h2 : xs.length * n.toNat ≤ 100000) (k : ∀ l H', M (pt l (.lst (List.replicate n.toNat xs).flatten) :: Rs) H' → Q (.ref l) H') : uMul (.ref p) (.int n) H Q :=
  .inr (.inr (.inl ⟨p, n, xs, rfl, rfl, h, by omega, by omega, Nat.le_trans h2 (by decide), fun l hl => k l _ (S.new hl)⟩))
/-- a while, by a word and a measure of the slots and the heap; the test is read for each turn -/
def WhW (c : TT) (tb : TS) (D : Ends) (σ : L2.St) (H : Hp) : Prop := ∃ W : Nat → L2.St → Hp → Prop, (∃ m, W m σ H) ∧ ∀ m σ H, W m σ H →
  c σ H fun b H1 => if b = true then ∃ N : L2.St → Hp → Prop, (∀ σ' H', N σ' H' → ∃ m', m' < m ∧ W m' σ' H') ∧ tb { D with nx := N, ct := N, bk := D.nx } σ H1 else D.nx σ H1
theorem g_while {c : TT} {tb : TS} (k : WhW c tb D σ H) : tWhile c tb D σ H := k
/-- N of a turn: W at some lesser measure -/
def WhN (W : Nat → L2.St → Hp → Prop) (m : Nat) : L2.St → Hp → Prop := fun σ H => ∃ m', m' < m ∧ W m' σ H
theorem wh_I {c : TT} {tb : TS} (W : Nat → L2.St → Hp → Prop) (m : Nat) (h0 : W m σ H)
    (hs : ∀ m σ H, W m σ H → c σ H fun b H1 => if b = true then ∃ N : L2.St → Hp → Prop, (∀ σ' H', N σ' H' → ∃ m', m' < m ∧ W m' σ' H') ∧ tb { D with nx := N, ct := N, bk := D.nx } σ H1 else D.nx σ H1) : WhW c tb D σ H := ⟨W, ⟨m, h0⟩, hs⟩
theorem wh_N {tb : TS} {m : Nat} {W : Nat → L2.St → Hp → Prop} {H1 : Hp} (k : tb { D with nx := WhN W m, ct := WhN W m, bk := D.nx } σ H1) : ∃ N : L2.St → Hp → Prop, (∀ σ' H', N σ' H' → ∃ m', m' < m ∧ W m' σ' H') ∧ tb { D with nx := N, ct := N, bk := D.nx } σ H1 := ⟨WhN W m, fun _ _ h => h, k⟩
end
end RC

namespace RC
open PySem PySem.Spec PyProof.Rows L2
/-! ### calls whose exceptions are wished for at the caller's slots -/
theorem pas0 {X : Cx} {σ : L2.St} {E : XK} : PassesAt CX0 X σ E := fun _ _ _ _ _ _ z => z.elim
section
variable {X : Cx} {g : Bool} {CX : CXT} {k n : Nat} {f C : Addr} {fd : FuncData} {ps ps' ks : List Str} {sp : Sp} {ds : List Value} {dvs : List V} {W : WX} {x m : Str} {p pos apos : Pos} {e o : Expr} {es : List Expr} {ta : TE} {t : TA}
theorem ended {pins : List (Addr × Obj)} {σ : L2.St} {H : Hp} {s : Shared} {Q : VK} {E : XK} {c : Code} (I : Inv X pins σ H s) (hx : PassesAt CX X σ E) (h : codeAny (model X.prog X.w) X.A c (CR CX X.stack X.prog X.w H s Q E) s) :
    codeAny (model X.prog X.w) X.A c (fun r s' => match r with | .ok (.ret u) => EP X pins σ Q u s' | .ok _ => False | .error u => X.xe u s') s := by
  refine codeAny_mono h fun res s' hq => ?_
  match res, hq with
  | .error u, hq => exact hx pins H s u s' I hq
  | .ok (.ret u), hq => exact I.after hq
  | .ok .next, hq => cases hq
  | .ok .brk, hq => cases hq
  | .ok .cont, hq => cases hq
theorem runW {pins : List (Addr × Obj)} {σ : L2.St} {H : Hp} {s : Shared} {Q : VK} {E : XK} {us : List Value} {vs : List V} (F : FnX g X.prog X.w X.K X.mg X.base CX k f fd ps sp) (hg : g = true → X.A.guards = some []) (hr : Room k X.A)
    (hb : Binds X.K fd ps ds) (hd : Vals dvs ds) (hx : PassesAt CX X σ E) (I : Inv X pins σ H s) (r : Vals vs us) (h : sp (vs ++ dvs) H Q E) :
    wpAny (model X.prog X.w) X.A (call (.ref f) us) (EP X pins σ Q) X.xe s := by
  have rr : Vals (vs ++ dvs) (us ++ ds) := r.append hd
  have ll : (us ++ ds).length = ps.length := rr.length.symm.trans (F.lenG _ _ _ _ h)
  have go := ended I hx (F.runG X.A X.stack s H ⟨us, []⟩ _ (us ++ ds) (vs ++ dvs) Q E hg hr I.env0 (hb s us I.kIn ll) (.refl _) rr h)
  refine wpAny_call (codeAny_mono go fun res s' hq => ?_)
  match res, hq with
  | .error _, hq => exact hq
  | .ok (.ret _), hq => exact hq
def tCallW (W : WX) (sp : Sp) (dvs : List V) (t : TA) : TE := fun σ H Q => t σ H fun vs H1 => sp (vs ++ dvs) H1 Q (WE W σ)
theorem pe_callW (F : FnX g X.prog X.w X.K X.mg X.base CX k f fd ps sp) (hgu : g = true → X.A.guards = some []) (hr : Room k X.A) (hg : Gl X x) (hm : X.mg x = some (.ref f))
    (hk : PySem.W.keepIn X.K (.ref f) = true) (hb : Binds X.K fd ps ds) (hd : Vals dvs ds) (hx : ∀ σ, PassesAt CX X σ (WE W σ))
    (ha : PA X (e :: es) t) (hdb : (x == ("__debug__" : Str)) = false := by decide) (he : starEach (e :: es) X.env = (false, eval e X.env) :: starEach es X.env := by rfl)
    (hpl : (backTo pos (starEach es X.env)).any (·.1) = false := by rfl) : PE X (.Call (.Name x p) (e :: es) [] pos) (tCallW W sp dvs t) := by
  constructor
  intro pins s σ H Q I h
  refine wpAny_Call_Name_kw (ld_glob I hg hm ?_ hdb)
  have body := thn (ha.run pos pins s σ H _ I h) (Q' := fun us s1 => X.K.In s1.heap ∧ wpAny (model X.prog X.w) X.A (call (.ref f) us) (EP X pins σ Q) X.xe s1)
    fun us s1 ⟨vs, H1, I1, r1, q1⟩ => ⟨I1.kIn, runW F hgu hr hb hd (hx σ) I1 r1 q1⟩
  exact PySem.W.callWith_K (h₀ := X.base) I.ok.mod.kin hk body he hpl
/-- o.m(e, ..) -/
def tMethW (W : WX) (C : Addr) (m : Str) (sp : Sp) (dvs : List V) (ta : TE) (t : TA) : TE := fun σ H Q => ta σ H fun x H1 => ∃ a dx fs, x = .ref a ∧ H1 a = some (.ins C dx fs) ∧ fs.lookup m = none ∧ t σ H1 fun vs H2 => sp (x :: (vs ++ dvs)) H2 Q (WE W σ)
theorem pe_methW {pl : Sem Bool} (he : PE X o ta) (c : Cls X.K C) (hm : Meth X.K C m f) (F : FnX g X.prog X.w X.K X.mg X.base CX k f fd ps sp) (hgu : g = true → X.A.guards = some []) (hr : Room k X.A) (hb : Binds X.K fd ps ds) (hd : Vals dvs ds)
    (hx : ∀ σ, PassesAt CX X σ (WE W σ)) (ha : PA X (e :: es) t) (hst : starEach (e :: es) X.env = (false, eval e X.env) :: starEach es X.env := by rfl) (hpl : (backTo pos (starEach es X.env)).any (·.1) = false := by rfl)
    (ht : eval (.Call (.Attribute o m apos) (e :: es) [] pos) X.env = (do
      let ov ← eval o X.env
      standAt apos.atName
      let (f, first) ← holding [ov] (getMethod ov m pl)
      callWith pos f first (backTo pos (starEach (e :: es) X.env)) (backToKw pos (keywordEach [] X.env))) := by rfl) : PE X (.Call (.Attribute o m apos) (e :: es) [] pos) (tMethW W C m sp dvs ta t) := by
  constructor
  intro pins s σ H Q I h
  refine PySem.W.methodCall_KW (pl := pl) (thn (he.run pins s σ H _ I h) ?_) ht
  rintro u s1 ⟨x, H1, I1, rx, a, dx, fs, rfl, ea, hl, q⟩
  cases (show u = Value.ref a from rx)
  refine getmeth_ok I1 ea c hm hl ?_
  refine PySem.W.callWith_K (first := [.ref a]) (h₀ := X.base) I.ok.mod.kin hm.kp (thn (ha.run pos pins s1 σ H1 _ I1 q) ?_) hst hpl
  rintro us s2 ⟨vs, H2, I2, r, q2⟩
  exact ⟨I2.kIn, runW (us := .ref a :: us) (vs := .ref a :: vs) F hgu hr hb hd (hx σ) I2 (.cons rfl r) q2⟩
theorem pe_methW0 {pl : Sem Bool} (he : PE X o ta) (c : Cls X.K C) (hm : Meth X.K C m f) (F : FnX g X.prog X.w X.K X.mg X.base CX k f fd ps sp) (hgu : g = true → X.A.guards = some []) (hr : Room k X.A) (hb : Binds X.K fd ps ds) (hd : Vals dvs ds)
    (hx : ∀ σ, PassesAt CX X σ (WE W σ))
    (ht : eval (.Call (.Attribute o m apos) [] [] pos) X.env = (do
      let ov ← eval o X.env
      standAt apos.atName
      let (f, first) ← holding [ov] (getMethod ov m pl)
      callWith pos f first (backTo pos (starEach [] X.env)) (backToKw pos (keywordEach [] X.env))) := by rfl) : PE X (.Call (.Attribute o m apos) [] [] pos) (tMethW W C m sp dvs ta tNil) := by
  constructor
  intro pins s σ H Q I h
  refine PySem.W.methodCall_KW (pl := pl) (thn (he.run pins s σ H _ I h) ?_) ht
  rintro u s1 ⟨x, H1, I1, rx, a, dx, fs, rfl, ea, hl, q⟩
  cases (show u = Value.ref a from rx)
  exact getmeth_ok I1 ea c hm hl (PySem.W.callWith_K0 (first := [.ref a]) I1.kIn hm.kp (runW (us := [.ref a]) (vs := [.ref a]) F hgu hr hb hd (hx σ) I1 (.cons rfl .nil) q))
/-- C(e, ..) -/
def tMakeW (W : WX) (C : Addr) (sp : Sp) (dvs : List V) (t : TA) : TE := fun σ H Q => t σ H fun vs H1 => ∀ x dx, H1 x = none → H1 dx = none → dx ≠ x →
  sp (.ref x :: (vs ++ dvs)) (upd (upd H1 dx (.own x)) x (.ins C dx [])) (fun v H2 => v = .non ∧ Q (.ref x) H2) (WE W σ)
theorem runMk {pins : List (Addr × Obj)} {σ : L2.St} {H : Hp} {s : Shared} {Q : VK} {E : XK} {us : List Value} {vs : List V} (M : Mk X.K C f) (F : FnX g X.prog X.w X.K X.mg X.base CX k f fd ps sp) (hgu : g = true → ((X.A.under (.builtin "type.__call__" ⟨.ref C :: us, []⟩)).guards = some []))
    (hr : Room (k + 1) X.A) (hb : Binds X.K fd ps ds) (hd : Vals dvs ds) (hx : PassesAt CX X σ E) (I : Inv X pins σ H s) (r : Vals vs us)
    (h : ∀ x dx, H x = none → H dx = none → dx ≠ x → sp (.ref x :: (vs ++ dvs)) (upd (upd H dx (.own x)) x (.ins C dx [])) (fun v H2 => v = .non ∧ Q (.ref x) H2) E) :
    wpAny (model X.prog X.w) X.A (call (.ref C) us) (EP X pins σ Q) X.xe s := by
  have hq := h (s.heap.objs.size + 1) s.heap.objs.size (I.hok.fresh (Nat.le_succ _)) (I.hok.fresh (Nat.le_refl _)) (Nat.ne_of_lt (Nat.lt_succ_self _))
  have I2 := Inv.made (C := C) I
  have r2 : Vals (V.ref (s.heap.objs.size + 1) :: (vs ++ dvs)) (Value.ref (s.heap.objs.size + 1) :: (us ++ ds)) := .cons rfl (r.append hd)
  have hl : (Value.ref (s.heap.objs.size + 1) :: us ++ ds).length = ps.length := r2.length.symm.trans (F.lenG _ _ _ _ hq)
  have go := F.runG (X.A.under (.builtin "type.__call__" ⟨.ref C :: us, []⟩)) X.stack _ _ ⟨Value.ref (s.heap.objs.size + 1) :: us, []⟩ _ (Value.ref (s.heap.objs.size + 1) :: (us ++ ds)) _ _ E hgu (hr.make C us []) (I2.env0.make C us [])
    (hb _ (Value.ref (s.heap.objs.size + 1) :: us) I2.kIn hl) (.refl _) r2 hq
  refine wpAny_call (make_map (f := f) I.kIn M.makes M.init (beq_iff_eq.mp M.fn) (codeAny_mono go fun res s' hq' => ?_))
  match res, hq' with
  | .error u, hq' => exact hx pins _ _ u s' I2 hq'
  | .ok (.ret u), hq' =>
    obtain ⟨v, H', I3, rv, ev, q3⟩ := I2.after hq'
    subst ev
    exact ⟨rv, ⟨V.ref (s.heap.objs.size + 1), H', I3, rfl, q3⟩⟩
  | .ok .next, hq' => cases hq'
  | .ok .brk, hq' => cases hq'
  | .ok .cont, hq' => cases hq'
theorem pe_makeW (M : Mk X.K C f) (F : FnX false X.prog X.w X.K X.mg X.base CX k f fd ps sp) (hr : Room (k + 1) X.A) (hg : Gl X x) (hm : X.mg x = some (.ref C)) (hb : Binds X.K fd ps ds) (hd : Vals dvs ds) (hx : ∀ σ, PassesAt CX X σ (WE W σ))
    (ha : PA X (e :: es) t) (hdb : (x == ("__debug__" : Str)) = false := by decide) (he : starEach (e :: es) X.env = (false, eval e X.env) :: starEach es X.env := by rfl) (hpl : (backTo pos (starEach es X.env)).any (·.1) = false := by rfl) :
    PE X (.Call (.Name x p) (e :: es) [] pos) (tMakeW W C sp dvs t) := by
  constructor
  intro pins s σ H Q I h
  refine wpAny_Call_Name_kw (ld_glob I hg hm ?_ hdb)
  have body := thn (ha.run pos pins s σ H _ I h) (Q' := fun us s1 => X.K.In s1.heap ∧ wpAny (model X.prog X.w) X.A (call (.ref C) us) (EP X pins σ Q) X.xe s1)
    fun us s1 ⟨vs, H1, I1, r1, q1⟩ => ⟨I1.kIn, runMk M F (fun z => nomatch z) hr hb hd (hx σ) I1 r1 q1⟩
  exact PySem.W.callWith_K (h₀ := X.base) I.ok.mod.kin M.kp body he hpl
theorem pe_makeW0 (M : Mk X.K C f) (F : FnX false X.prog X.w X.K X.mg X.base CX k f fd ps sp) (hr : Room (k + 1) X.A) (hg : Gl X x) (hm : X.mg x = some (.ref C)) (hb : Binds X.K fd ps ds) (hd : Vals dvs ds) (hx : ∀ σ, PassesAt CX X σ (WE W σ))
    (hdb : (x == ("__debug__" : Str)) = false := by decide) : PE X (.Call (.Name x p) [] [] pos) (tMakeW W C sp dvs tNil) := by
  constructor
  intro pins s σ H Q I h
  refine wpAny_Call_Name_kw (ld_glob I hg hm ?_ hdb)
  exact PySem.W.callWith_K0 I.kIn M.kp (runMk (us := []) M F (fun z => nomatch z) hr hb hd (hx σ) I .nil h)
end
end RC

namespace RC
open PySem PySem.Spec PyProof.Rows L2
/-! ### own exception classes over any built-in one -/
structure XcB (K : PySem.W.Frag) (C : Addr) (B newId initId : String) (bmB : List Value) : Prop where
  fb : ExcBaseFacts B newId initId bmB
  sf : StoreFacts B bmB "object.__setattr__" "object"
  ini : PySem.W.excInitIn K C bmB newId = true
  ovr : PySem.W.excOver K C bmB = true
  hd : PySem.W.hasDictIn K C = true
  sa : PySem.W.findIn K (.ref C) "__setattr__" = some (some (.builtin "object.__setattr__"))
  exC : PySem.W.subIn K (.ref C) (.type "BaseException") = some true
  tyC : PySem.W.typeIn K (.ref C) = some (.type "type")
  kC : PySem.W.keepIn K (.ref C) = true
theorem upd_self {H : Hp} {a : Addr} {o : HO} (e : H a = some o) : upd H a o = H := by
  funext b
  by_cases hb : b = a
  · rw [hb, upd_same, e]
  · rw [upd_ne hb]
section
variable {X : Cx} {pins : List (Addr × Obj)} {σ : L2.St} {H : Hp} {s : Shared} {a C : Addr} {f : Str} {y : V} {u : Value} {A : Around} {E : Value → Shared → Prop} {B newId initId : String} {bmB : List Value}
theorem x_set {Q : Unit → Shared → Prop} (T : XcB X.K C B newId initId bmB) (I : Inv X pins σ H s) (e : H a = some (exo a C none)) (hno : PySem.W.findIn X.K (.ref C) f = some none) (ry : RelV y u)
    (h : ∀ dx s', H dx = none → dx ≠ a → Inv X pins σ (upd (upd H dx (exd dx [(f, y)])) a (exo a C (some dx))) s' → Q () s') : wpAny (model X.prog X.w) A (setAttr (.ref a) f u) Q E s := by
  obtain ⟨t1, ho⟩ := exo_at I.hok e
  obtain ⟨hp, g, d, t, os⟩ := s
  have ho2 : hp.get? a = some (PySem.W.excObj C t1 none .none) := ho
  obtain ⟨cd, hc, hcd⟩ := PySem.W.any_some T.hd
  refine PySem.W.set_plain I.kIn (ox := PySem.W.excObj C t1 none .none) (od := none) ⟨ho2, rfl, rfl, trivial⟩ T.sa ?_
  refine PySem.W.osa_openX (od := none) T.sf I.kIn ⟨ho2, rfl, rfl, trivial⟩ T.ovr (NoAttr.taker hno) fun b => ?_
  refine wpAny_bind (wpAny_pure (wpAny_bind (PySem.W.instanceDict_exc ho2 (PySem.W.looks_clsIn I.kIn hc) hcd ?_)))
  have hxs : a ≠ hp.objs.size := Nat.ne_of_lt (Heap.lt_size ho)
  refine HandSPX.store_in_new ?_ ?_
  · exact ⟨_, #[], _, (Heap.get?_update_ne _ _ _ _ hxs.symm).trans (Heap.get?_push_at rfl rfl), rfl, fun e he => absurd he (by simp), fun _ => rfl⟩
  intro h' tk' hn hs
  have hx1 : (hp.push (PySem.W.dictOf [] 0)).get? a = some (PySem.W.excObj C t1 none .none) := Heap.get?_push_of_some _ ho2
  have kp : ∀ b o, b ≠ a → hp.get? b = some o → h'.get? b = some o := fun b o hb q =>
    (hs.2 b (Nat.ne_of_lt (Heap.lt_size q))).trans ((Heap.get?_update_ne _ _ _ _ hb).trans (Heap.get?_push_of_some _ q))
  have hx : h'.get? a = some ({ cls := .ref C, dict := some hp.objs.size, data := .fields #[.ref t1, .none, .none, .none, .bool false, .none] } : Obj) := (hs.2 a hxs).trans (Heap.get?_update_self _ hx1 rfl)
  have hnd : H hp.objs.size = none := I.hok.fresh (Nat.le_refl _)
  have nd : ∀ {b : Addr} {o : Obj}, hp.get? b = some o → b ≠ hp.objs.size := fun q => Nat.ne_of_lt (Heap.lt_size q)
  have na : ∀ {b : Addr}, H b = none → b ≠ a := fun n z => by
    rw [z, e] at n
    cases n
  have un : Un X.fs [] H (upd (upd H hp.objs.size (exd hp.objs.size [(f, y)])) a (exo a C (some hp.objs.size))) hp h' := by
    constructor
    · exact fun b o q n _ _ => kp b o (na n) q
    · exact fun b o q n _ _ => ⟨o.slots, kp b o (na n) q⟩
    · intro b o q n _
      rw [upd_ne (na n), upd_ne (nd q)]
      exact n
    · intro b o q _
      by_cases hb : b = a
      · subst hb
        exact ⟨_, hx⟩
      · exact ⟨o, kp b o hb q⟩
    · intro b xs q
      rw [upd_ne (at_ne e q exo_tup), upd_ne (ne_of_none q hnd)]
      exact q
    · intro b o v q
      rw [upd_ne (at_ne e q exo_frz), upd_ne (ne_of_none q hnd)]
      exact q
    · intro b ps q
      refine ⟨#[], ?_⟩
      rw [upd_ne (at_ne e q exo_tbl), upd_ne (ne_of_none q hnd), q]
      simp
  refine h hp.objs.size _ hnd hxs.symm (I.un (t' := tk') un fun b o q => ?_)
  by_cases hb : b = a
  · subst hb
    rw [upd_same] at q
    cases q
    exact exo_ok hx
  rw [upd_ne hb] at q
  by_cases hd : b = hp.objs.size
  · subst hd
    rw [upd_same] at q
    cases q
    exact exd_ok hn (relO_put (fs := []) ry fun g => True.intro)
  rw [upd_ne hd] at q
  refine (I.hok b o q).stay (fun c v hc z => kp c v ?_ z) (fun c hc => ?_) (fun c xs hc => ?_)
  · rcases hc with hc | hc
    · subst hc
      exact hb
    · exact at_ne e hc exo_own
  · rw [upd_ne (at_ne e hc exo_own), upd_ne (ne_of_none hc hnd)]
    exact hc
  · rw [upd_ne (at_ne e hc exo_tup), upd_ne (ne_of_none hc hnd)]
    exact hc
theorem x_init {us : List Value} {Q : Value → Shared → Prop} (T : XcB X.K C B newId initId bmB) (I : Inv X pins σ H s) (e : H a = some (exo a C none)) (hl : us.length ≤ sizeLine) (h : ∀ s', Inv X pins σ H s' → Q .none s') :
    wpAny (model X.prog X.w) A (call (.builtin initId) (.ref a :: us)) Q E s := by
  obtain ⟨nm, N, qn, bs, bm, hdct, sn, sub, ab, col, dd, k0, k1, k2, k3, k5, hC, hT⟩ := PySem.W.excInit_of I.kIn T.ini
  obtain ⟨t1, ho⟩ := exo_at I.hok e
  obtain ⟨hp, g, d, t, os⟩ := s
  refine wpAny_call (HandSPX.init_base T.fb hT hC ho hl fun h' t2 k hx => ?_)
  have J := I.write (t' := t) (x := a) (e := a) (o := exo a C none) (by rw [e]; exact True.intro) (.inl rfl) k ⟨_, hx⟩ (exo_ok hx)
  rw [upd_self e] at J
  exact h _ J
end
/-- D.__init__(self, ..), D an own class over the built-in one -/
structure XcI (K : PySem.W.Frag) (D : Addr) (initId : String) : Prop where
  ga : PySem.W.specialIn K (.ref D) "__getattribute__" = some (some (.builtin "type.__getattribute__"))
  ty : PySem.W.typeIn K (.ref D) = some (.type "type")
  rd : PySem.W.readsIn K D (.type "type") = true
  fi : PySem.W.findCls K (.ref D) (.type "type") "__init__" = some (.val (.builtin initId))
def tXi (K : PySem.W.Frag) (initId : String) (ta : TA) : TE := fun σ H Q => ta σ H fun vs H1 => ∃ (a C : Addr) (ws : List V) (B newId : String) (bmB : List Value), vs = .ref a :: ws ∧ ws.length ≤ 1000 ∧ XcB K C B newId initId bmB ∧ H1 a = some (exo a C none) ∧ Q .non H1
def tXs (K : PySem.W.Frag) (f : Str) (to te : TE) : TS := fun D σ H => te σ H fun y H1 => to σ H1 fun x H2 => ∃ (a C : Addr) (B newId initId : String) (bmB : List Value), x = .ref a ∧ XcB K C B newId initId bmB ∧ PySem.W.findIn K (.ref C) f = some none ∧
  H2 a = some (exo a C none) ∧ ∀ dx, H2 dx = none → dx ≠ a → D.nx σ (upd (upd H2 dx (exd dx [(f, y)])) a (exo a C (some dx)))
def tXm (C : Addr) (sp : Sp) (ta : TA) : L2.St → Hp → XK → Prop := fun σ H Q => ta σ H fun vs H1 => vs.length ≤ 1000 ∧ ∀ a, H1 a = none → sp (.ref a :: vs) (upd H1 a (exo a C none))
  (fun v H2 => v = .non ∧ ∃ (d : Addr) (fs : List (Str × V)), H2 a = some (exo a C (some d)) ∧ H2 d = some (exd d fs) ∧ H1 d = none ∧ Q (.ref C) (some d) (upd (del H2 a) d (.xd fs))) (fun _ _ _ => False)
section
variable {X : Cx} {o e : Expr} {es : List Expr} {to te : TE} {ta : TA} {f P : Str} {p p' p1 p2 pos : Pos} {C D : Addr} {initId : String}
theorem pe_xi {pl : Sem Bool} (hg : Gl X P) (hm : X.mg P = some (.ref D)) (T : XcI X.K D initId) (ha : PA X (e :: es) ta)
    (hc : eval (.Call (.Attribute (.Name P p1) "__init__" p2) (e :: es) [] pos) X.env = (do
      let ov ← eval (.Name P p1) X.env
      standAt p2.atName
      let (f, first) ← holding [ov] (getMethod ov "__init__" pl)
      callWith pos f first (backTo pos (starEach (e :: es) X.env)) (backToKw pos (keywordEach [] X.env))) := by rfl)
    (hh : PySem.W.handedIn (.builtin initId) = true := by decide +kernel) (hdb : (P == ("__debug__" : Str)) = false := by decide)
    (he : starEach (e :: es) X.env = (false, eval e X.env) :: starEach es X.env := by rfl) (hpl : (backTo pos (starEach es X.env)).any (·.1) = false := by rfl) :
    PE X (.Call (.Attribute (.Name P p1) "__init__" p2) (e :: es) [] pos) (tXi X.K initId ta) := by
  constructor
  intro pins s σ H Q I h
  refine PySem.W.methodCall_KW (ld_glob I hg hm ?_ hdb) hc
  obtain ⟨m, fr⟩ := I.fr
  refine PySem.W.method_of_cls fr I.ok.mod.kin T.ga (PySem.W.cls_val fr I.ok.mod.kin T.ty T.rd T.fi hh ?_)
  show wpAny _ _ (callWith pos (Value.builtin initId) [] (backTo pos (starEach (e :: es) X.env)) []) _ _ _
  refine PyProof.Rows.callWith_method1 (thn (ha.run pos pins _ σ H _ (I.tok _) h) ?_) he hpl
  rintro us s1 ⟨vs, H1, I1, r1, a, C, ws, B, newId, bmB, rfl, hl, T, ea, q⟩
  cases r1 with
  | @cons _ u0 _ ur ra rw' =>
    cases (show u0 = Value.ref a from ra)
    have hlen : ur.length ≤ sizeLine := by
      rw [← Paired.length rw', sizeLine_eq]
      omega
    exact x_init T I1 ea hlen fun s' J => ⟨.non, H1, J, rfl, q⟩
theorem ps_xs (ho : PE X o to) (he : PE X e te) (hs : swapsWith e (some (.Attribute o f p')) pos.line X.env = pure false := by rfl) : PS X (.Assign [.Attribute o f p'] e pos) (tXs X.K f to te) := by
  constructor
  intro pins s σ H D I h
  refine plainObj_wpAny_Assign_Attribute (thn (he.run pins s σ H _ I h) ?_) hs
  rintro v s1 ⟨y, H1, I1, r1, q1⟩
  refine thn (ho.run pins s1 σ H1 _ I1 q1) ?_
  rintro u s2 ⟨x, H2, I2, r2, a, C, B, newId, initId, bmB, rfl, T, hno, ea, q⟩
  cases (show u = Value.ref a from r2)
  exact x_set T I2 ea hno r1 fun dx s' n ne J => ⟨σ, _, J, q dx n ne⟩
theorem pmk_x {CX : CXT} {x : Str} {C fI : Addr} {k : Nat} {fd : FuncData} {ps : List Str} {sp : Sp} {B newId : String} {bmB : List Value} (T : XcB X.K C B newId initId bmB) (iC : PySem.W.findIn X.K (.ref C) "__init__" = some (some (.ref fI))) (tI : PySem.W.typeIn X.K (.ref fI) = some (.type "function"))
    (F : FnX false X.prog X.w X.K X.mg X.base CX k fI fd ps sp) (hr : Room (k + 1) X.A) (hb : Binds X.K fd ps []) (hx : Passes CX X (fun _ _ _ => False)) (hg : Gl X x) (hm : X.mg x = some (.ref C)) (ha : PA X (e :: es) ta)
    (hdb : (x == ("__debug__" : Str)) = false := by decide) (he : starEach (e :: es) X.env = (false, eval e X.env) :: starEach es X.env := by rfl) (hpl : (backTo pos (starEach es X.env)).any (·.1) = false := by rfl) :
    PMk X (.Call (.Name x p) (e :: es) [] pos) (tXm C sp ta) := by
  intro pins s σ H Q I h
  refine wpAny_Call_Name_kw (ld_glob I hg hm ?_ hdb)
  refine PySem.W.callWith_K (h₀ := X.base) I.ok.mod.kin T.kC (thn (ha.run pos pins s σ H _ I h) ?_) he hpl
  rintro us s1 ⟨vs, H1, I1, r1, hz, q1⟩
  refine ⟨I1.kIn, ?_⟩
  show wpAny _ _ (call (.ref C) us) _ _ _
  obtain ⟨nm, N, qn, bs, bm, hdct, sn, sub, ab, col, dd, k0, k1, k2, k3, k5, hC, hT⟩ := PySem.W.excInit_of I1.kIn T.ini
  obtain ⟨hp, g, dr, tk, os⟩ := s1
  have hsz : hp.objs.size ≤ hp.objs.size + 1 := Nat.le_succ _
  have hq := q1 (hp.objs.size + 1) (I1.hok.fresh hsz)
  have kk : ∀ b o, hp.get? b = some o → ((hp.push (PySem.W.kdv_tup us)).push (HandSPX.excO C hp.objs.size)).get? b = some o := fun b o z => Heap.get?_push_of_some _ (Heap.get?_push_of_some _ z)
  have hget : ((hp.push (PySem.W.kdv_tup us)).push (HandSPX.excO C hp.objs.size)).get? (hp.objs.size + 1) = some (HandSPX.excO C hp.objs.size) := by heap_get
  have I2 := I1.laid (t' := tk) (a := hp.objs.size + 1) (o := exo (hp.objs.size + 1) C none) (h' := (hp.push (PySem.W.kdv_tup us)).push (HandSPX.excO C hp.objs.size)) kk hsz (exo_ok hget)
  have r2 : Vals (V.ref (hp.objs.size + 1) :: vs) (Value.ref (hp.objs.size + 1) :: us) := .cons rfl r1
  have hl : (Value.ref (hp.objs.size + 1) :: us ++ []).length = ps.length := by
    rw [List.append_nil]
    exact r2.length.symm.trans (F.lenG _ _ _ _ hq)
  have hus : us.length ≤ sizeLine := by
    rw [← Paired.length r1, sizeLine_eq]
    omega
  have hb2 := hb ⟨(hp.push (PySem.W.kdv_tup us)).push (HandSPX.excO C hp.objs.size), g, dr, tk, os⟩ (Value.ref (hp.objs.size + 1) :: us) I2.kIn hl
  rw [List.append_nil] at hb2
  have go := F.runG (X.A.under (.builtin "type.__call__" ⟨.ref C :: us, []⟩)) X.stack _ _ ⟨Value.ref (hp.objs.size + 1) :: us, []⟩ _ (Value.ref (hp.objs.size + 1) :: us) _ _ (fun _ _ _ => False) (fun z => nomatch z) (hr.make C us []) (I2.env0.make C us []) hb2 (.refl _) r2 hq
  refine wpAny_call (HandSPX.call_own T.fb hT hC (PySem.W.looks_findIn I1.kIn iC) (fun self => PySem.W.bind_fn I1.kIn self tI) hus (codeAny_mono go fun r s' hq' => ?_))
  match r, hq' with
  | .error er, hq' => exact hx pins σ _ _ er s' I2 hq'
  | .ok (.ret u), hq' =>
    obtain ⟨v, H2, os2, bare2, un2, hok2, rv, rfl, d, fs, ea, ed, hd1, q2⟩ := hq'
    obtain ⟨h2, g2, d2, t2, os'⟩ := s'
    exact ⟨rv, mk_end (raises_own T.exC T.tyC) I1 hsz kk un2 hok2 os2 bare2 ea ed hd1 q2⟩
  | .ok .next, hq' => cases hq'
  | .ok .brk, hq' => cases hq'
  | .ok .cont, hq' => cases hq'
end
end RC

namespace RC
open PySem PySem.Spec PyProof.Rows L2
/-! ### raise X(e) -/
def spX (C : Addr) (f : Str) : Sp := fun vs H Q _ => ∃ (a : Addr) (v : V), vs = [.ref a, v] ∧ H a = some (exo a C none) ∧ ∀ dx, H dx = none → dx ≠ a → Q .non (upd (upd H dx (exd dx [(f, v)])) a (exo a C (some dx)))
theorem lenX {C : Addr} {f : Str} (vs : List V) (H : Hp) (Q : VK) (E : XK) (h : spX C f vs H Q E) : vs.length = 2 := by
  obtain ⟨a, v, rfl, _⟩ := h
  rfl
def tXz (C : Addr) (f : Str) (te : TE) : L2.St → Hp → XK → Prop := fun σ H Q => te σ H fun v H1 => ∀ d, H1 d = none → Q (.ref C) (some d) (upd H1 d (.xd [(f, v)]))
theorem PE.wk {X : Cx} {e : Expr} {te : TE} (h : PE X e te) : PE X e (fun σ H Q => ∃ R : VK, te σ H R ∧ ∀ v H1, R v H1 → Q v H1) :=
  ⟨fun pins s σ H _ I ⟨R, h1, h2⟩ => thn (h.run pins s σ H R I h1) fun _ _ ⟨v, H1, I1, r, q⟩ => ⟨v, H1, I1, r, h2 v H1 q⟩⟩
theorem pmk_xz {X : Cx} {CX : CXT} {x f : Str} {C fI : Addr} {k : Nat} {fd : FuncData} {ps : List Str} {B newId initId : String} {bmB : List Value} {e : Expr} {te : TE} {p pos : Pos} (T : XcB X.K C B newId initId bmB) (iC : PySem.W.findIn X.K (.ref C) "__init__" = some (some (.ref fI)))
    (tI : PySem.W.typeIn X.K (.ref fI) = some (.type "function")) (F : FnX false X.prog X.w X.K X.mg X.base CX k fI fd ps (spX C f)) (hr : Room (k + 1) X.A) (hb : Binds X.K fd ps []) (hx : Passes CX X (fun _ _ _ => False)) (hg : Gl X x) (hm : X.mg x = some (.ref C)) (ha : PE X e te)
    (hdb : (x == ("__debug__" : Str)) = false := by decide) (he : starEach [e] X.env = (false, eval e X.env) :: starEach [] X.env := by rfl) :
    PMk X (.Call (.Name x p) [e] [] pos) (tXz C f te) := by
  have key : ∀ (Q : XK) (v : V) (H1 : Hp), (∀ d, H1 d = none → Q (.ref C) (some d) (upd H1 d (.xd [(f, v)]))) → [v].length ≤ 1000 ∧ ∀ a, H1 a = none → spX C f (.ref a :: [v]) (upd H1 a (exo a C none))
      (fun v H2 => v = .non ∧ ∃ (d : Addr) (fs : List (Str × V)), H2 a = some (exo a C (some d)) ∧ H2 d = some (exd d fs) ∧ H1 d = none ∧ Q (.ref C) (some d) (upd (del H2 a) d (.xd fs))) (fun _ _ _ => False) := by
    intro Q v H1 q
    refine ⟨by simp, fun a na => ⟨a, v, rfl, upd_same, fun dx hdx hne => ⟨rfl, dx, [(f, v)], upd_same, ?_, ?_, ?_⟩⟩⟩
    · rw [upd_ne hne, upd_same]
    · rw [upd_ne hne] at hdx
      exact hdx
    · have e1 : upd (del (upd (upd (upd H1 a (exo a C none)) dx (exd dx [(f, v)])) a (exo a C (some dx))) a) dx (.xd [(f, v)]) = upd H1 dx (.xd [(f, v)]) := by
        funext b
        by_cases hb : b = dx
        · subst hb
          rw [upd_same, upd_same]
        · rw [upd_ne hb, upd_ne hb]
          by_cases hba : b = a
          · subst hba
            rw [del_same, na]
          · rw [del_ne hba, upd_ne hba, upd_ne hb, upd_ne hba]
      rw [e1]
      rw [upd_ne hne] at hdx
      exact q dx hdx
  intro pins s σ H Q I h
  have hp := pa_cons (PE.wk ha) (pa_nil (X := X)) he
  exact pmk_x (p := p) (pos := pos) T iC tI F hr hb hx hg hm hp hdb he rfl pins s σ H Q I ⟨_, h, fun v H1 q => key Q v H1 q⟩
/-- raise X(e) -/
def tRz (W : WX) (C : Addr) (f : Str) (te : TE) : TS := fun _ σ H => te σ H fun v H1 => ∀ d, H1 d = none → W (.ref C) (some d) σ (upd H1 d (.xd [(f, v)]))
theorem ps_rz {X : Cx} {W : WX} {CX : CXT} {x f : Str} {C fI : Addr} {k : Nat} {fd : FuncData} {ps : List Str} {B newId initId : String} {bmB : List Value} {e : Expr} {te : TE} {p pos pos' : Pos} (hc : X.calm = true) (tk : Takes X W) (T : XcB X.K C B newId initId bmB)
    (iC : PySem.W.findIn X.K (.ref C) "__init__" = some (some (.ref fI))) (tI : PySem.W.typeIn X.K (.ref fI) = some (.type "function")) (F : FnX false X.prog X.w X.K X.mg X.base CX k fI fd ps (spX C f)) (hr : Room (k + 1) X.A) (hb : Binds X.K fd ps []) (hx : Passes CX X (fun _ _ _ => False))
    (hg : Gl X x) (hm : X.mg x = some (.ref C)) (ha : PE X e te) (hdb : (x == ("__debug__" : Str)) = false := by decide) (he : starEach [e] X.env = (false, eval e X.env) :: starEach [] X.env := by rfl) :
    PS X (.Raise (some (.Call (.Name x p) [e] [] pos)) none pos') (tRz W C f te) := ps_raise hc tk (pmk_xz T iC tI F hr hb hx hg hm ha hdb he)
/-- the reading of such an __init__ -/
theorem pureX {K : PySem.W.Frag} {C : Addr} {f msg : Str} {B newId initId : String} {bmB : List Value} {N : List Str} (hN : start N [] = [none, none]) (T : XcB K C B newId initId bmB) (hno : PySem.W.findIn K (.ref C) f = some none) (vs : List V) (H : Hp) (Q : VK) (E : XK) (h : spX C f vs H Q E) :
    tSeq (tDrop (tXi K initId (tCons (tVar 0) (tCons (tC (.str msg)) tNil)))) (tXs K f (tVar 0) (tVar 1)) { nx := fun _ H' => Q .non H', rt := Q } (start N vs) H := by
  obtain ⟨a, v, rfl, ha, q⟩ := h
  have e : start N [V.ref a, v] = [some (V.ref a), some v] := by
    have l : N.length = 2 := by
      have := congrArg List.length hN
      simpa [L2.start] using this
    simp [L2.start, l]
  rw [e]
  exact ⟨_, rfl, a, C, [.str msg], B, newId, bmB, rfl, by simp, T, ha, v, rfl, _, rfl, a, C, B, newId, initId, bmB, rfl, T, hno, ha, q⟩

/-! ### try: body, except clauses of any form -/
/-- a clause's test: evaluated in the suite's context it tells whether the exception is of one of the classes cs -/
def TestOk (X : Cx) (t : Expr) (cs : List Value) : Prop := ∀ (a : Addr) (oe : Obj) (pn pins : List (Addr × Obj)) (σ : L2.St) (H : Hp) (s : Shared) (cls : Value) (b : Bool) (Q : Bool → Shared → Prop) (E : Value → Shared → Prop),
  Inv (X.suite a ((a, oe) :: pn)) pins σ H s → PySem.W.Looks (model X.prog X.w) s.heap (typeOf (.ref a)) cls → PySem.W.exmAny X.K cls cs = some b →
    (∀ h', (∀ q o, s.heap.get? q = some o → h'.get? q = some o) → Q b { s with heap := h' }) →
      wpAny (model X.prog X.w) (X.A.mark (some (.ref a))) (eval t X.env) (fun c s1 => wpAny (model X.prog X.w) (X.A.mark (some (.ref a))) (excMatches (.ref a) c) Q E s1) E s
section
variable {X : Cx} {x1 x2 x3 : Str} {c1 c2 c3 : Value} {p1 p2 p3 tp : Pos} {kk : Nat}
theorem nameAt {a : Addr} {oe : Obj} {pn pins : List (Addr × Obj)} {σ : L2.St} {H : Hp} {s : Shared} {Q : Value → Shared → Prop} {E : Value → Shared → Prop} (hc : Names X x1 c1) (I : Inv (X.suite a ((a, oe) :: pn)) pins σ H s) (q : Q c1 s) :
    wpAny (model X.prog X.w) (X.A.mark (some (.ref a))) (eval (.Name x1 p1) X.env) Q E s := by
  obtain ⟨hg, hdbg, hm | ⟨hm, hv, hnn⟩⟩ := hc
  · exact ld_glob (X := X.suite a ((a, oe) :: pn)) I hg hm q hdbg
  · exact ld_blt (X := X.suite a ((a, oe) :: pn)) I hg hm hv q hnn hdbg
theorem test1 (hc : Names X x1 c1) : TestOk X (.Name x1 p1) [c1] := by
  intro a oe pn pins σ H s cls b Q E I LT he q
  obtain ⟨b1, d1, e1, e2, rfl⟩ := PySem.W.exmAny_cons he
  cases e2
  rw [Bool.or_false] at q
  exact nameAt hc I ((PySem.W.exm_one I.kIn LT e1).here (q s.heap fun _ _ z => z))
theorem test2 (h1 : Names X x1 c1) (h2 : Names X x2 c2) : TestOk X (.Tuple [.Name x1 p1, .Name x2 p2] kk tp) [c1, c2] := by
  intro a oe pn pins σ H s cls b Q E I LT he q
  refine wpAny_Tuple (wpAny_items_cons (nameAt h1 I ?_))
  refine wpAny_items_cons (nameAt h2 I (wpAny_items_nil ⟨by size_fits, ?_⟩))
  have kp : ∀ q o, s.heap.get? q = some o → (s.heap.push { cls := .type "tuple", data := .seq [c1, c2].toArray }).get? q = some o := fun _ _ z => Heap.get?_push_of_some _ z
  exact (PySem.W.exm_tup2 (I.kIn.keeps kp) (LT.keeps kp) (Heap.get?_push_size s.heap rfl) he).here (q _ kp)
theorem test3 (h1 : Names X x1 c1) (h2 : Names X x2 c2) (h3 : Names X x3 c3) : TestOk X (.Tuple [.Name x1 p1, .Name x2 p2, .Name x3 p3] kk tp) [c1, c2, c3] := by
  intro a oe pn pins σ H s cls b Q E I LT he q
  refine wpAny_Tuple (wpAny_items_cons (nameAt h1 I ?_))
  refine wpAny_items_cons (nameAt h2 I (wpAny_items_cons (nameAt h3 I (wpAny_items_nil ⟨by size_fits, ?_⟩))))
  have kp : ∀ q o, s.heap.get? q = some o → (s.heap.push { cls := .type "tuple", data := .seq [c1, c2, c3].toArray }).get? q = some o := fun _ _ z => Heap.get?_push_of_some _ z
  exact (PySem.W.exm_tup3 (I.kIn.keeps kp) (LT.keeps kp) (Heap.get?_push_size s.heap rfl) he).here (q _ kp)
end
/-- a clause: its classes, the slot of its name, its suite -/
structure Hd where
  cs : List Value
  sl : Option Nat
  ts : Addr → Value → Option Addr → TS
def Hd.put (σ : L2.St) (a : Addr) : Option Nat → L2.St
  | none => σ
  | some i => σ.set i (some (.ref a))
def Hd.ends (D : Ends) : Option Nat → Ends
  | none => D
  | some i => { nx := fun σ' H' => D.nx (σ'.set i none) H', rt := D.rt, bk := fun σ' H' => D.bk (σ'.set i none) H', ct := fun σ' H' => D.ct (σ'.set i none) H' }
def wTry (K : PySem.W.Frag) (W : WX) (D : Ends) : List Hd → WX
  | [] => W
  | h :: r => fun cls d σ H => ∃ b, PySem.W.exmAny K cls h.cs = some b ∧ (b = true → ∀ a, H a = none → h.ts a cls d (Hd.ends D h.sl) (Hd.put σ a h.sl) H) ∧ (b = false → wTry K W D r cls d σ H)
inductive HdOk (X : Cx) : List ExceptHandler → List Hd → Prop
  | nil : HdOk X [] []
  | plain {t : Expr} {cs : List Value} {ts : Addr → Value → Option Addr → TS} {b₀ : Stmt} {suite : List Stmt} {pos : Pos} {hds : List ExceptHandler} {l : List Hd} (ht : TestOk X t cs)
      (hsu : ∀ (a : Addr) (oe : Obj) (cls : Value) (d : Option Addr) (pn : List (Addr × Obj)), Zc cls d oe → (∃ vs, oe.data = .fields vs) → PSs (X.suite a ((a, oe) :: pn)) (b₀ :: suite) (ts a cls d)) (r : HdOk X hds l) :
      HdOk X (.ExceptHandler (some t) none (b₀ :: suite) pos :: hds) (⟨cs, none, ts⟩ :: l)
  | named {t : Expr} {cs : List Value} {n : Str} {i : Nat} {ts : Addr → Value → Option Addr → TS} {b₀ : Stmt} {suite : List Stmt} {pos : Pos} {hds : List ExceptHandler} {l : List Hd} (ht : TestOk X t cs) (hi : X.N[i]? = some n) (hln : X.env.kindOf n = some .local)
      (hsu : ∀ (a : Addr) (oe : Obj) (cls : Value) (d : Option Addr) (pn : List (Addr × Obj)), Zc cls d oe → (∃ vs, oe.data = .fields vs) → PSs (X.suite a ((a, oe) :: pn)) (b₀ :: suite) (ts a cls d)) (r : HdOk X hds l) :
      HdOk X (.ExceptHandler (some t) (some n) (b₀ :: suite) pos :: hds) (⟨cs, some i, ts⟩ :: l)
theorem flying_kept {B : Heap} {l : List Env} {a : Addr} {Z : Obj → Prop} {h h' : Heap} (fl : HandSPX.FlyingZ B l a Z h) (k : ∀ b o, h.get? b = some o → h'.get? b = some o) : HandSPX.FlyingZ B l a Z h' := by
  obtain ⟨f1, f2, f3, oe, vs, T, oT, ts, he, hz, hd, h1, hn, hne, hT, hdT, h3⟩ := fl
  exact ⟨fun b o q => k b o (f1 b o q), f2, f3.of_keeps fun b o q _ => ⟨o, k b o q, rfl⟩, oe, vs, T, oT, ts, k _ _ he, hz, hd, h1, hn, hne, k _ _ hT, hdT, h3⟩
section
variable {X : Cx} {body : List Stmt} {h₀ : ExceptHandler} {hds : List ExceptHandler} {l : List Hd} {pos : Pos} {tb : WX → TS} {W : WX}
theorem ps_tryG (hs : X.stack = X.env :: X.outer) (hf : X.env.frame = some X.env.locals) (hN : X.N.Nodup) (tk : Takes X W)
    (hb : ∀ (W' : WX) (pn : List (Addr × Obj)) (xe : Value → Shared → Prop), Takes (X.tr pn xe) W' → PassesOwn (model X.prog X.w) X.A X.env xe → PSs (X.tr pn xe) body (tb W'))
    (hh : HdOk X (h₀ :: hds) l) : PS X (.Try body (h₀ :: hds) [] [] pos) (fun D σ H => tb (wTry X.K W D l) D σ H) := by
  constructor
  intro pins s σ H D I h
  have ok := I.ok
  have hfr : X.A.frames = some (X.env :: X.outer) := ok.frames.trans (by rw [hs])
  refine wpAny_Try_except ?_
  let xe : Value → Shared → Prop := fun e s₁ => wpAny (model X.prog X.w) X.A (noteFrame e X.env) (fun _ s₂ => wpAny (model X.prog X.w) X.A (setFlight e none)
    (fun _ s₃ => wpAny (model X.prog X.w) X.A (handleBy e X.env (h₀ :: hds)) (SP X pins D) X.xe s₃) X.xe s₂) X.xe s₁
  have tkb : Takes (X.tr (X.pn ++ pins) xe) (wTry X.K W D l) := by
    rintro u s' ⟨a, B, sI, pins', σ', H', cls, d, rfl, J', nb, up, sky, na, os, ag, w⟩
    have J : Inv X pins σ' H' sI := J'.ofTry ok
    have sky' : Sky B (X.env :: X.outer) a (Zc cls d) X.env.locals s'.heap := hs ▸ sky
    show wpAny (model X.prog X.w) X.A (noteFrame (.ref a) X.env) _ _ _
    refine Sky.land Zc.steady hfr hf sky' fun h3 fl3 up3 => ?_
    have main : ∀ {hds' : List ExceptHandler} {l' : List Hd}, HdOk X hds' l' → wTry X.K W D l' cls d σ' H' → ∀ h3, HandSPX.FlyingZ B (X.env :: X.outer) a (Zc cls d) h3 → sI.heap.UpToSlots h3 →
        wpAny (model X.prog X.w) X.A (handleBy (.ref a) X.env hds') (SP X pins D) X.xe { s' with heap := h3 } := by
      intro hds' l' hk
      have place : ∀ {h3 : Heap}, HandSPX.FlyingZ B (X.env :: X.outer) a (Zc cls d) h3 → sI.heap.UpToSlots h3 →
          ∃ oe, Zc cls d oe ∧ (∃ vs, oe.data = .fields vs) ∧ Inv (X.suite a ((a, oe) :: (X.pn ++ pins))) [] σ' H' { s' with heap := h3 } ∧ PySem.W.Looks (model X.prog X.w) h3 (typeOf (.ref a)) cls := by
        intro h3 fl up
        have J3 : Inv X pins σ' H' { s' with heap := h3 } := J.landed nb fl.1 up os ag
        obtain ⟨oe, vs, he, hz, hd⟩ := fl.there
        have nfr : a ∉ frs (X.env :: X.outer) := fun hm => by
          obtain ⟨_, o', e', hnf⟩ := fl.2.2.1.mem hm
          rw [he] at e'
          cases e'
          exact hnf _ hd
        have nL : a ≠ X.env.locals := fun z => nfr (List.mem_filterMap.mpr ⟨X.env, List.mem_cons_self, by rw [hf, z]⟩)
        have nF : a ∉ X.fs := fun hm => by
          obtain ⟨e, he, q⟩ := List.mem_filterMap.mp hm
          exact nfr (List.mem_filterMap.mpr ⟨e, List.mem_cons_of_mem _ he, q⟩)
        exact ⟨oe, hz, ⟨vs, hd⟩, J3.suite he hd na nL nF, fun A Q E s k q => wpAny_typeOf_ref (k _ _ he) (by rw [hz.1]; exact q)⟩
      induction hk with
      | nil =>
        intro w h3 fl3 up3
        refine wpAny_handleBy_nil ?_
        obtain ⟨k1, k2, k3, oe, vs, T, oT, ts', he, hz, hd, h1, hr⟩ := id fl3
        unfold PySem.passOn
        refine wpAny_bind (wpAny_field he hd h1 ?_)
        rw [if_neg (show ¬ ((Value.ref T == Value.none) = true) from by simp)]
        have fin : wpAny (model X.prog X.w) X.A (setFlight (.ref a) X.env.frame) (fun _ s4 => wpAny (model X.prog X.w) X.A (throw (.ref a) : Sem Flow) (SP X pins D) X.xe s4) X.xe { s' with heap := h3 } := by
          rw [hf]
          refine HandSPX.setFlight_upZ fl3 fun h4 hh4 up4 => wpAny_throw (tk _ _ ⟨a, B, sI, pins, σ', H', cls, d, rfl, J, nb, up3.trans up4, .inr (.inr ?_), na, os, ag, w⟩)
          rw [hs]
          exact hh4
        first
          | exact wpAny_bind (wpAny_pure (wpAny_bind fin))
          | exact wpAny_bind fin
      | @plain t cs ts b₀ suite pos hds2 l2 ht hsu r ih =>
        rintro ⟨b, hb1, hyes, hno⟩ h3 fl3 up3
        obtain ⟨oe3, _, _, S3, LT⟩ := place fl3 up3
        refine wpAny_handleBy_cons (codeAny_handlers_test (ht a oe3 _ [] σ' H' _ cls b _ _ S3 LT hb1 fun h4 k4 => ?_)) (by intro q; cases q)
        have fl4 := flying_kept fl3 k4
        have up4 := up3.trans (Heap.UpToSlots.of_keeps k4)
        cases b with
        | true =>
          refine codeAny_handlers_suite ?_
          refine HandSPX.lands_againZ fl4 fun h5 fl5 up5 => ?_
          obtain ⟨oe5, hz5, hd5, S5, _⟩ := place fl5 (up4.trans up5)
          refine wpAny_mono ((hsu a oe5 cls d (X.pn ++ pins) hz5 hd5).run [] _ _ H' _ S5 (hyes rfl a na)) (fun f s6 hsp => ?_) (fun _ _ z => False.elim z)
          match f, hsp with
          | .next, ⟨σ6, H6, S6, q6⟩ => exact ⟨_, _, S6.unsuite ok, q6⟩
          | .brk, ⟨σ6, H6, S6, q6⟩ => exact ⟨_, _, S6.unsuite ok, q6⟩
          | .cont, ⟨σ6, H6, S6, q6⟩ => exact ⟨_, _, S6.unsuite ok, q6⟩
          | .ret u, ⟨v6, σ6, H6, S6, r6, q6⟩ => exact ⟨_, _, _, S6.unsuite ok, r6, q6⟩
        | false => exact ih (hno rfl) h4 fl4 up4
      | @named t cs n i ts b₀ suite pos hds2 l2 ht hi hln hsu r ih =>
        rintro ⟨b, hb1, hyes, hno⟩ h3 fl3 up3
        obtain ⟨oe3, _, _, S3, LT⟩ := place fl3 up3
        refine wpAny_handleBy_cons (codeAny_handlers_test (ht a oe3 _ [] σ' H' _ cls b _ _ S3 LT hb1 fun h4 k4 => ?_)) (by intro q; cases q)
        have fl4 := flying_kept fl3 k4
        have up4 := up3.trans (Heap.UpToSlots.of_keeps k4)
        cases b with
        | true =>
          refine codeAny_handlers_suite_as ?_
          refine HandSPX.lands_againZ fl4 fun h5 fl5 up5 => ?_
          obtain ⟨oe5, hz5, hd5, S5, _⟩ := place fl5 (up4.trans up5)
          refine store_ok (X := X.suite a ((a, oe5) :: (X.pn ++ pins))) (v := .ref a) S5 hN hi (.inl hln) rfl (fun s7 S7 => ?_) (.inr hln)
          refine wpAny_mono ((hsu a oe5 cls d (X.pn ++ pins) hz5 hd5).run [] s7 _ H' _ S7 (hyes rfl a na)) (fun f s6 hsp => ?_) (fun _ _ z => False.elim z)
          have end_ : ∀ {σ6 : L2.St} {H6 : Hp} {Q : Shared → Prop}, Inv (X.suite a ((a, oe5) :: (X.pn ++ pins))) [] σ6 H6 s6 → (∀ s7, Inv X pins (σ6.set i none) H6 s7 → Q s7) →
              wpAny (model X.prog X.w) X.A (do bindName X.env n .none; unbindBehindTheSuite X.env n pos) (fun _ s7 => Q s7) X.xe s6 := fun S6 hq => gone_ok (S6.unsuite ok) hN hi hln hq
          match f, hsp with
          | .next, ⟨σ6, H6, S6, q6⟩ => exact end_ S6 fun s7 J7 => ⟨_, _, J7, q6⟩
          | .brk, ⟨σ6, H6, S6, q6⟩ => exact end_ S6 fun s7 J7 => ⟨_, _, J7, q6⟩
          | .cont, ⟨σ6, H6, S6, q6⟩ => exact end_ S6 fun s7 J7 => ⟨_, _, J7, q6⟩
          | .ret u, ⟨v6, σ6, H6, S6, r6, q6⟩ => exact end_ S6 fun s7 J7 => ⟨_, _, _, J7, r6, q6⟩
        | false => exact ih (hno rfl) h4 fl4 up4
    exact main hh w h3 fl3 (up.trans up3)
  refine wpAny_mono ((hb (wTry X.K W D l) (X.pn ++ pins) xe tkb PassesOwn.looking).run [] s σ H D (I.toTry _) h) (fun f s1 hsp => ?_) (fun e s1 he => he)
  match f, hsp with
  | .next, ⟨σ', H', J', q⟩ => exact wpAny_execs_nil ⟨σ', H', J'.ofTry ok, q⟩
  | .brk, ⟨σ', H', J', q⟩ => exact ⟨σ', H', J'.ofTry ok, q⟩
  | .cont, ⟨σ', H', J', q⟩ => exact ⟨σ', H', J'.ofTry ok, q⟩
  | .ret u, ⟨v, σ', H', J', r, q⟩ => exact ⟨v, σ', H', J'.ofTry ok, r, q⟩
end
end RC

namespace RC
open PySem PySem.Spec PyProof.Rows L2
/-! ### the exception that a suite holds -/
def KnX (K : PySem.W.Frag) (cls : Value) (d : Option Addr) (H : Hp) : Prop := ∃ D, cls = .ref D ∧ ExcC K D ∧ (d = none ∨ ∃ dd fs, d = some dd ∧ H dd = some (.xd fs))
def rIsX (K : PySem.W.Frag) (a : Addr) (cls : Value) (d : Option Addr) : List V → Hp → VK → Prop := fun xs H Q => ∃ (c : V) (cv : Value) (b : Bool), xs = [.ref a, c] ∧ KnX K cls d H ∧ ClsV c cv ∧ PySem.W.kitOne K cls cv = some b ∧ Q (.bl b) H
def rIsXT (K : PySem.W.Frag) (a : Addr) (cls : Value) (d : Option Addr) : List V → Hp → VK → Prop := fun xs H Q => ∃ (tp : Addr) (cs : List V) (us : List Value) (b : Bool), xs = [.ref a, .ref tp] ∧ KnX K cls d H ∧ H tp = some (.tup cs) ∧ Paired ClsV cs us ∧ PySem.W.kitAny K cls us = some b ∧ Q (.bl b) H
def uIsX (K : PySem.W.Frag) (a : Addr) (cls : Value) (d : Option Addr) : List V → Hp → VK → Prop := fun xs H Q => rIsX K a cls d xs H Q ∨ rIsXT K a cls d xs H Q
def tXg (K : PySem.W.Frag) (a : Addr) (cls : Value) (d : Option Addr) (n : Str) (te : TE) : TE := fun σ H Q => te σ H fun x H1 => x = .ref a ∧ ∃ D dd fs v, cls = .ref D ∧ ExcC K D ∧ PySem.W.findIn K (.ref D) n = some none ∧ d = some dd ∧ H1 dd = some (.xd fs) ∧ fs.lookup n = some v ∧ Q v H1
section
variable {X : Cx} {a D : Addr} {oe : Obj} {cls : Value} {d : Option Addr}
theorem inst_at {pins : List (Addr × Obj)} {σ : L2.St} {H : Hp} {s : Shared} (hp : (a, oe) ∈ X.pn) (hz : Zc (.ref D) d oe) (hf : ∃ vs, oe.data = .fields vs) (I : Inv X pins σ H s) (hd : d = none ∨ ∃ dd fs, d = some dd ∧ H dd = some (.xd fs)) :
    ∃ od, PySem.W.InstAt s.heap a oe D od := by
  obtain ⟨ha, _⟩ := I.pin (a, oe) (List.mem_append_left _ hp)
  obtain ⟨vs, hv⟩ := hf
  have nc : PySem.W.notCls oe = true := by
    unfold PySem.W.notCls
    rw [hv] <;> rfl
  rcases hd with rfl | ⟨dd, fs, rfl, e⟩
  · exact ⟨none, ha, hz.1, nc, by rw [hz.2]; trivial⟩
  · obtain ⟨mA, ⟨o, es, ep, e1, e2⟩, hr⟩ := (show ObjOk X.prog X.w H s.heap dd (.xd fs) from I.hok dd _ e)
    exact ⟨some o, ha, hz.1, nc, by rw [hz.2]; exact e1⟩
theorem kit_exc {K : PySem.W.Frag} {od : Option Obj} (C : ExcC K D) : PySem.W.KitX K (.ref a) (.ref D) (fun h => PySem.W.InstAt h a oe D od) :=
  PySem.W.kitx_exc (by obtain ⟨cd, hc, _⟩ := PySem.W.any_some C.hd; rw [hc]; rfl) C.hg C.hk C.hs C.ha C.hn C.ht C.hm
theorem cr_isX (hp : (a, oe) ∈ X.pn) (hz : Zc cls d oe) (hf : ∃ vs, oe.data = .fields vs) : CallR X (.builtin "isinstance") (uIsX X.K a cls d) := by
  intro pins s σ H xs us Q I r h
  rcases h with ⟨c, cv, b, rfl, ⟨D, rfl, C, hd⟩, k, e, q⟩ | ⟨tp, cs, ws, b, rfl, ⟨D, rfl, C, hd⟩, hT, k, e, q⟩
  · obtain ⟨u1, u2, rfl, r1, r2⟩ := vals2 r
    cases (show u1 = Value.ref a from r1)
    cases k.eq r2
    obtain ⟨od, J⟩ := inst_at hp hz hf I hd
    exact PySem.W.kia_one (kit_exc C) I.kIn J e (fun z => nomatch z) fun tk => ⟨.bl b, H, I.tok tk, rfl, q⟩
  · obtain ⟨u1, u2, rfl, r1, r2⟩ := vals2 r
    cases (show u1 = Value.ref a from r1)
    cases (show u2 = Value.ref tp from r2)
    obtain ⟨od, J⟩ := inst_at hp hz hf I hd
    obtain ⟨_, its, rv, o, h1, h2, n, h3⟩ := (show ObjOk X.prog X.w H s.heap tp (.tup cs) from I.hok tp _ hT)
    cases ClsV.all k rv
    obtain ⟨oc, od2, dt, sl⟩ := o
    simp only at h2 h3
    subst h2 h3
    exact PySem.W.kia_tup (kit_exc C) I.kIn J h1 e (fun z => nomatch z) fun tk => ⟨.bl b, H, I.tok tk, rfl, q⟩
theorem pe_xg {e : Expr} {te : TE} {pos : Pos} {n : Str} (hp : (a, oe) ∈ X.pn) (hz : Zc cls d oe) (hf : ∃ vs, oe.data = .fields vs) (he : PE X e te) (hb : attributeBase e n X.env (eval e X.env) = eval e X.env := by rfl) :
    PE X (.Attribute e n pos) (tXg X.K a cls d n te) := by
  constructor
  intro pins s σ H Q I h
  refine attr_of hb (thn (he.run pins s σ H _ I h) ?_)
  rintro u s1 ⟨x, H1, I1, rx, rfl, D, dd, fs, v, rfl, C, hno, rfl, ea, l, q⟩
  cases (show u = Value.ref a from rx)
  obtain ⟨ha, _⟩ := I1.pin (a, oe) (List.mem_append_left _ hp)
  obtain ⟨vs, hv⟩ := hf
  obtain ⟨mA, hns, hr⟩ := (show ObjOk X.prog X.w H1 s1.heap dd (.xd fs) from I1.hok dd _ ea)
  obtain ⟨od, ho, hl⟩ := lookIn_ns hns
  obtain ⟨u, hu, ru⟩ := RelO.some_of (v := v) (o := mA n) (by rw [← l]; exact hr n)
  have nc : PySem.W.notCls oe = true := by
    unfold PySem.W.notCls
    rw [hv] <;> rfl
  have J : PySem.W.InstAt s1.heap a oe D (some od) := ⟨ha, hz.1, nc, by rw [hz.2]; exact ho⟩
  exact HandSPX.exc_get I1.kIn J C.hg C.hk C.hs (PySem.W.findObj_own C.hd hno rfl (by rw [hl, hu])) (handed_of ru) ⟨v, H1, I1.tok _, ru, q⟩
end
/-! ### a def that is handed the exception in a suite -/
structure FnE (P : Program) (w : World) (K : PySem.W.Frag) (mg : Str → Option Value) (base : Heap) (k : Nat) (f : Addr) (fd : FuncData) (x : Str) (sp : Addr → Value → Option Addr → Hp → VK → Prop) : Prop where
  run : ∀ (A : Around) (outer : List Env) (s : Shared) (H : Hp) (args : Args) (Q : VK) (a : Addr) (oe : Obj) (cls : Value) (d : Option Addr), L2H.RoomH k A → Zc cls d oe → (∃ vs, oe.data = .fields vs) → L2H.PinOk outer H s (a, oe) → Env0 P w K mg base A outer s H →
    BindsTo s fd args [(x, .ref a)] → sp a cls d H Q → codeAny (model P w) A (.call (.ref f) args) (CR CX0 outer P w H s Q E0) s
theorem okE {P : Program} {w : World} {K : PySem.W.Frag} {mg : Str → Option Value} {base : Heap} {k : Nat} {f : Addr} {fd : FuncData} {x xq qual : Str} {params : Arguments} {body : List Stmt} {scope : Scope} {dvs : List V} {kws : List (Str × V)} {N : List Str}
    {sp : Addr → Value → Option Addr → Hp → VK → Prop} (D : FunD K xq qual params body scope dvs kws f fd) (S : FnScope N [x] scope)
    (hbody : ∀ (cdv : Value) (B : Around) (out : List Env) (t : Shared) (H : Hp) (Q : VK) (a : Addr) (oe : Obj) (cls : Value) (d : Option Addr), L2H.RoomH k (B.deeper (envOfC qual scope t.heap.objs.size f cdv)) → Zc cls d oe → (∃ vs, oe.data = .fields vs) → sp a cls d H Q →
      ∃ tr, PSs (L2H.cxH CX0 P w K mg base N qual scope f cdv B out t H E0 (a, oe)) body tr ∧ tr { nx := fun _ H' => Q .non H', rt := Q } (L2.start N [.ref a]) H) :
    FnE P w K mg base (k + 1) f fd x sp := by
  obtain ⟨⟨oc, od, dV, kV, doc, pm, an, cdv, ct, osl, rfl, lk, hcd, _, _⟩, _⟩ := D
  constructor
  intro A outer s H args Q a oe cls d hr hz hf hpin env hb hsp
  have hin : K.In s.heap := env.mod.kin.keeps fun b o q => (env.bs b o q).1
  have hno : s.heap.NoLimit := env.mod.nolimit.keeps fun b o q => (env.bs b o q).1
  have hk : ∀ y ∈ [x].zip [Value.ref a], scope.names.lookup y.1 = some .local ∨ (scope.names.lookup y.1 = some .cell ∧ ((cellsFrom (s.heap.objs.size + 1) scope.names []).lookup y.1).isSome = true) := by
    rintro ⟨n, v⟩ hy
    cases S.par n (List.of_mem_zip hy).1 with
    | inl q => exact .inl q
    | inr q => exact .inr ⟨q, PySem.W.cellsFrom_some _ _ _ (.inl q)⟩
  refine codeAny_call_function hr.depth (hin _ _ lk) rfl S.co S.gen rfl (PySem.W.codeRec_of hin hcd) (hb _ _ _ _ ?_)
  refine wpAny_newFunctionEnv_cells S.kind hk fun ev hev t1 ic => ?_
  subst hev
  refine ⟨hno.keeps ic.toInCall.keep, codeAny_func ?_⟩
  obtain ⟨tr, htr, hq⟩ := hbody cdv A outer s H Q a oe cls d (hr.deeper _) hz hf hsp
  have J : Inv (L2H.cxH CX0 P w K mg base N qual scope f cdv A outer s H E0 (a, oe)) [] (L2.start N [.ref a]) H t1 := L2H.inv_startH (us := [.ref a]) S hpin env rfl (.cons rfl .nil) ic
  refine wpAny_mono (htr.run [] t1 _ H _ J hq) (fun fl t2 z => ?_) fun _ _ z => z
  match fl, z with
  | .next, ⟨s2, H2, J2, q2⟩ => exact ⟨V.non, H2, J2.os, J2.bare, J2.base, J2.hok, rfl, q2⟩
  | .ret u, ⟨v2, s2, H2, J2, r2, q2⟩ => exact ⟨v2, H2, J2.os, J2.bare, J2.base, J2.hok, r2, q2⟩
  | .brk, ⟨_, _, _, q2⟩ => cases q2
  | .cont, ⟨_, _, _, q2⟩ => cases q2
/-- f(e), e the exception that is held -/
def tCallE (a : Addr) (cls : Value) (d : Option Addr) (sp : Addr → Value → Option Addr → Hp → VK → Prop) (te : TE) : TE := fun σ H Q => te σ H fun x H1 => x = .ref a ∧ sp a cls d H1 Q
theorem pe_callE {X : Cx} {a f : Addr} {oe : Obj} {cls : Value} {d : Option Addr} {k : Nat} {fd : FuncData} {x px : Str} {sp : Addr → Value → Option Addr → Hp → VK → Prop} {e : Expr} {te : TE} {p pos : Pos} (F : FnE X.prog X.w X.K X.mg X.base k f fd px sp) (hp : (a, oe) ∈ X.pn) (hz : Zc cls d oe)
    (hf : ∃ vs, oe.data = .fields vs) (hr : L2H.RoomH k X.A) (hg : Gl X x) (hm : X.mg x = some (.ref f)) (hk : PySem.W.keepIn X.K (.ref f) = true) (hb : Binds X.K fd [px] []) (ha : PE X e te)
    (hdb : (x == ("__debug__" : Str)) = false := by decide) (he : starEach [e] X.env = (false, eval e X.env) :: starEach [] X.env := by rfl) : PE X (.Call (.Name x p) [e] [] pos) (tCallE a cls d sp te) := by
  constructor
  intro pins s σ H Q I h
  refine wpAny_Call_Name_kw (ld_glob I hg hm ?_ hdb)
  have pa := pa_cons (PE.wk ha) (pa_nil (X := X)) he
  have body := thn (pa.run pos pins s σ H (fun vs H1 => vs = [.ref a] ∧ sp a cls d H1 Q) I ⟨_, h, fun v H1 z => ⟨by rw [z.1], z.2⟩⟩) (Q' := fun us s1 => X.K.In s1.heap ∧ wpAny (model X.prog X.w) X.A (call (.ref f) us) (EP X pins σ Q) X.xe s1) ?_
  · exact PySem.W.callWith_K (h₀ := X.base) I.ok.mod.kin hk body he rfl
  rintro us s1 ⟨vs, H1, I1, r1, rfl, q1⟩
  refine ⟨I1.kIn, ?_⟩
  obtain ⟨u, rfl, ru⟩ := vals1 r1
  cases (show u = Value.ref a from ru)
  have P1 := I1.pin (a, oe) (List.mem_append_left _ hp)
  have hpin : L2H.PinOk X.stack H1 s1 (a, oe) := ⟨P1.1, P1.2.1, fun hm => (List.mem_cons.mp (I1.stkSub a hm)).elim P1.2.2.1 P1.2.2.2.1, P1.2.2.2.2⟩
  have bb := hb s1 [.ref a] I1.kIn rfl
  have go := F.run X.A X.stack s1 H1 ⟨[.ref a], []⟩ Q a oe cls d hr hz hf hpin I1.env0 bb q1
  refine wpAny_call (codeAny_mono go fun r s' hq => ?_)
  match r, hq with
  | .error _, hq => exact hq.elim
  | .ok (.ret u), hq => exact I1.after hq
  | .ok .next, hq => cases hq
  | .ok .brk, hq => cases hq
  | .ok .cont, hq => cases hq
/-! ### the head's facts, any -/
def startsAt (g : Addr → Option Obj) : Nat → List Addr
  | 0 => [mainGlobals, cStatics]
  | n + 1 => He.growD g (startsAt g n)
def obsF (fa : List (PySem.W.Frag → Bool)) (fn : List He.DefD) (K : PySem.W.Frag) : He.AlD := ((fa.all fun f => f K) && fn.all fun d => d.ok K, fn.map fun d => He.fnW K d.at_)
def SaysF (fa : List (PySem.W.Frag → Bool)) (fn : List He.DefD) (K : PySem.W.Frag) : Prop := obsF fa fn K = He.valD fn
def obsFG (n : Nat) (fa : List (PySem.W.Frag → Bool)) (fn : List He.DefD) (g : Addr → Option Obj) : He.AlD := obsF fa fn (He.frG g (startsAt g n))
def hookF (n : Nat) (fa : List (PySem.W.Frag → Bool)) (fn : List He.DefD) : PySem.W.Hook where
  α := He.AlD
  obs := fun s => obsFG n fa fn s.heap.get?
  val := fun _ => He.valD fn
  says := fun _ h => ∃ K : PySem.W.Frag, K.In h ∧ SaysF fa fn K
  of := fun _ _ e => ⟨_, He.frG_in, e⟩
  keeps := fun _ _ _ ⟨K, hK, c⟩ k => ⟨K, PySem.W.Frag.In.keeps hK k, c⟩
theorem obsFG_eq {n : Nat} {fa : List (PySem.W.Frag → Bool)} {fn : List He.DefD} {g : Addr → Option Obj} {s : Shared} (h : ∀ a, g a = s.heap.get? a) : obsFG n fa fn g = (hookF n fa fn).obs s := by
  have e : g = s.heap.get? := funext h
  rw [e] <;> rfl
section
variable {fa : List (PySem.W.Frag → Bool)} {fn : List He.DefD} {K : PySem.W.Frag}
theorem SaysF.fact (c : SaysF fa fn K) (i : Nat) {f : PySem.W.Frag → Bool} (h : fa[i]? = some f := by rfl) : f K = true := by
  have c1 : ((fa.all fun f => f K) && fn.all fun d => d.ok K) = true := congrArg (fun z : He.AlD => z.1) c
  exact List.all_eq_true.mp (Bool.and_eq_true_iff.mp c1).1 f (List.mem_of_getElem? h)
theorem SaysF.def_ (c : SaysF fa fn K) (i : Nat) {d : He.DefD} (h : fn[i]? = some d := by rfl) : ∃ fd, FunD K d.name d.qual d.params d.body d.scope (d.dvs K) (d.kws K) (He.fAd K d.at_) fd := by
  have c1 : ((fa.all fun f => f K) && fn.all fun d => d.ok K) = true := congrArg (fun z : He.AlD => z.1) c
  have e : fn.map (fun d => He.fnW K d.at_) = fn.map He.DefD.val := congrArg (fun z : He.AlD => z.2) c
  have e2 : (fn.map fun d => He.fnW K d.at_)[i]? = (fn.map He.DefD.val)[i]? := by rw [e]
  rw [List.getElem?_map, List.getElem?_map, h] at e2
  exact He.DefD.funD (Option.some.inj e2) (List.all_eq_true.mp (Bool.and_eq_true_iff.mp c1).2 d (List.mem_of_getElem? h))
end
end RC

theorem L2H.RoomH.units {k : Nat} {A : PySem.Around} (r : L2H.RoomH k A) : A.units + 64 < PySem.cLine := by
  have := r.un
  omega
theorem L2H.RoomH.u65 {k : Nat} {A : PySem.Around} (r : L2H.RoomH k A) : A.units + 65 < PySem.cLine := by
  have := r.un
  omega
theorem L2H.RoomH.u1 {k : Nat} {A : PySem.Around} (r : L2H.RoomH k A) : A.units + 1 < PySem.cLine := by
  have := r.un
  omega
theorem L2.Room.u65 {k : Nat} {A : PySem.Around} (r : L2.Room k A) : A.units + 65 < PySem.cLine := by
  have := r.un
  omega
theorem L2.Room.u1 {k : Nat} {A : PySem.Around} (r : L2.Room k A) : A.units + 1 < PySem.cLine := by
  have := r.un
  omega
namespace RC
open PySem PySem.Spec PyProof.Rows L2
/-- no wish -/
def W0 : WX := fun _ _ _ _ => False
abbrev WT (E : XK) : WX := fun cls d _ H => E cls d H
theorem tk0 {X : Cx} : Takes X W0 := takes_none5
/-- a def that may raise -/
theorem okW {g : Bool} {P : Program} {w : World} {K : PySem.W.Frag} {mg : Str → Option Value} {base : Heap} {k : Nat} {f : Addr} {fd : FuncData} {ps : List Str} {sp : Sp} {x qual : Str} {params : Arguments} {body : List Stmt} {scope : Scope} {dvs : List V} {kws : List (Str × V)} {N : List Str}
    (D : FunD K x qual params body scope dvs kws f fd) (S : FnScope N ps scope) (hlen : ∀ vs H Q E, sp vs H Q E → vs.length = ps.length)
    (hbody : ∀ (cdv : Value) (B : Around) (out : List Env) (t : Shared) (H : Hp) (vs : List V) (Q : VK) (E : XK), (g = true → B.guards = some []) → Room k (B.deeper (envOfC qual scope t.heap.objs.size f cdv)) → sp vs H Q E →
      Takes (cxOf (L2.CX P w) P w K mg base N qual scope f cdv B out t H E) (WT E) → PassesOwn (model P w) (cxOf (L2.CX P w) P w K mg base N qual scope f cdv B out t H E).A (cxOf (L2.CX P w) P w K mg base N qual scope f cdv B out t H E).env (cxOf (L2.CX P w) P w K mg base N qual scope f cdv B out t H E).xe →
      ∃ tr, PSs (cxOf (L2.CX P w) P w K mg base N qual scope f cdv B out t H E) body tr ∧ tr { nx := fun _ H' => Q .non H', rt := Q } (L2.start N vs) H) :
    FnX g P w K mg base (L2.CX P w) (k + 1) f fd ps sp :=
  okX D S hlen fun cdv B out t H vs Q E hg hr hs => hbody cdv B out t H vs Q E hg hr hs (takes_of rfl rfl rfl rfl) (passes_of rfl)
section
variable {X : Cx}
theorem uo_inU (hu : X.A.units + 65 < cLine) : OpR X (compareOp .In) (uIn X.K) := op_in_seq.or ((op_inD hu).or ((op_din (by omega)).or op_in_str))
theorem uo_notinU (hu : X.A.units + 65 < cLine) : OpR X (compareOp .NotIn) (uNotIn X.K) := op_notIn_seq.or ((op_notInD hu).or ((op_dnotin (by omega)).or op_notin_str))
/-- d[k] by values -/
def rIxK : R2 := fun x y H Q => ∃ a v, x = .ref a ∧ DGet H a y (some v) ∧ Q v H
theorem ix_dk (hu : X.A.units + 1 < cLine) : IxR X rIxK := by
  intro value slice pins s σ H x y v u Q I rx ry h hs
  obtain ⟨a, r, rfl, hd, q⟩ := h
  cases (show v = Value.ref a from rx)
  exact tail_any (dict_typeIs I hd) PySem.F.slot_dict_getitem.lookup (d_getItem hu I hd ry fun w' s3 I3 rw' => ⟨r, H, I3, rw', q⟩) hs
def uIy (K : PySem.W.Frag) : R2 := fun x y H Q => rIx K x y H Q ∨ rIxK x y H Q
theorem ix_any2 (hu : X.A.units + 1 < cLine) : IxR X (uIy X.K) := ix_seq.or (ix_dk hu)
/-- xs.count(y), flat items -/
def rCntV (K : PySem.W.Frag) : V → List V → Hp → VK → Prop := fun x xs H Q => ∃ (a : Addr) (ys : List V) (y : V), x = V.ref a ∧ xs = [y] ∧ SqL K H a ys ∧ flatV y = true ∧ ys.all flatV = true ∧ Q (.int ((ys.countP fun z => eqV z y) : Nat)) H
theorem countP_vals {y : V} : ∀ {ys : List V} {its : List Value}, Vals ys its → ys.all flatV = true → its.countP (eqU y) = ys.countP fun z => eqV z y
  | _, _, .nil, _ => rfl
  | _, _, .cons r t, h => by
    rw [List.all_cons, Bool.and_eq_true] at h
    rw [List.countP_cons, List.countP_cons, countP_vals t h.2, eqU_of r h.1]
theorem mt_countV : MtR X "list.count" (rCntV X.K) := by
  intro pins s σ H x xs v us Q I rx rxs h
  obtain ⟨a, ys, y, rfl, rfl, hs, fy, fys, q⟩ := h
  cases rx
  obtain ⟨u, rfl, ru⟩ := rxs.one
  obtain ⟨its, rv, ⟨⟨cls, dd, data, sl⟩, n, ho, hc, hdn, hd⟩, hlen⟩ := I.list hs
  simp only at hc hd
  subst hc hd
  refine call_meets PySem.F.slot_list_count ⟨_, ho, rfl⟩ PySem.F.entry_list_count (PySem.F.args_list_count_2 _ _)
    (SeqAt.list_countAt a its.toArray n dd sl u (eqU y)) ⟨ho, fun u' hu' => mem_eqAt ru fy rv fys u' (by simpa using hu'), ?_⟩
  refine ⟨.int _, H, I.tok _, ⟨s.toks, ?_⟩, q⟩
  have e : its.toArray.toList.countP (eqU y) = ys.countP fun z => eqV z y := countP_vals rv fys
  rw [e]
/-- len(o) by an own __len__ -/
def rLenI (C : Addr) (sp : Sp) : List V → Hp → VK → Prop := fun xs H Q => ∃ a dx fs, xs = [.ref a] ∧ H a = some (.ins C dx fs) ∧ sp [.ref a] H (fun v H' => ∃ n : Int, v = .int n ∧ 0 ≤ n ∧ n < 2 ^ 63 ∧ Q (.int n) H') E0
theorem cr_lenI {C f : Addr} {k : Nat} {fd : FuncData} {ps : List Str} {sp : Sp} (hm : Meth X.K C "__len__" f) (F : FnX false X.prog X.w X.K X.mg X.base CX0 k f fd ps sp) (hr : Room (k + 1) X.A) (hb : Binds X.K fd ps []) : CallR X (.builtin "len") (rLenI C sp) := by
  intro pins s σ H xs us Q I r h
  obtain ⟨a, dx, fs, rfl, ea, q⟩ := h
  obtain ⟨u, rfl, ru⟩ := vals1 r
  cases (show u = Value.ref a from ru)
  obtain ⟨m, fr⟩ := I.fr
  obtain ⟨mA, O, _⟩ := ins_get I.hok ea
  obtain ⟨od, J, _⟩ := O.look
  refine PySem.W.len_K fr I.ok.mod.kin J hm.at_ hm.fn ?_
  have ll : ([Value.ref a] ++ []).length = ps.length := (F.lenG _ _ _ _ q).symm ▸ rfl
  have bb := hb s [.ref a] I.kIn ll
  have go := F.runG X.A.in1 X.stack s H ⟨[.ref a], []⟩ _ [.ref a] [.ref a] _ _ (fun z => nomatch z) hr.in1 I.env0.in1 bb (.refl _) (.cons rfl .nil) q
  refine wpAny_call (codeAny_mono go fun res s' hq => ?_)
  match res, hq with
  | .error _, hq => exact hq.elim
  | .ok (.ret u), hq =>
    obtain ⟨v, H', I', rv, n, rfl, h0, h1, q'⟩ := I.after hq
    obtain ⟨t, rfl⟩ := rv
    exact ⟨⟨h0, h1⟩, ⟨.int n, H', I'.tok _, ⟨_, rfl⟩, q'⟩⟩
  | .ok .next, hq => cases hq
  | .ok .brk, hq => cases hq
  | .ok .cont, hq => cases hq
end
def clsB : Stmt → List Stmt
  | .ClassDef _ _ _ body _ _ _ _ _ _ _ => body
  | _ => []
/-! ### checks of the head's part -/
abbrev mA (K : PySem.W.Frag) (c m : Str) : Addr := He.ma K (He.ga K c) m
def chB (K : PySem.W.Frag) (x : Str) (bmB : List Value) (newId : String) : Bool := PySem.W.excInitIn K (He.ga K x) bmB newId && (PySem.W.excOver K (He.ga K x) bmB && (PySem.W.hasDictIn K (He.ga K x) && (He.eqO (PySem.W.findIn K (.ref (He.ga K x)) "__setattr__") (some (some (.builtin "object.__setattr__"))) &&
  (decide (PySem.W.subIn K (.ref (He.ga K x)) (.type "BaseException") = some true) && (decide (PySem.W.typeIn K (.ref (He.ga K x)) = some (.type "type")) && PySem.W.keepIn K (.ref (He.ga K x)))))))
theorem chB_ok {K : PySem.W.Frag} {x : Str} {B newId initId : String} {bmB : List Value} (fb : ExcBaseFacts B newId initId bmB) (sf : StoreFacts B bmB "object.__setattr__" "object") (h : chB K x bmB newId = true) : XcB K (He.ga K x) B newId initId bmB := by
  obtain ⟨h1, h⟩ := He.ba h
  obtain ⟨h2, h⟩ := He.ba h
  obtain ⟨h3, h⟩ := He.ba h
  obtain ⟨h4, h⟩ := He.ba h
  obtain ⟨h5, h⟩ := He.ba h
  obtain ⟨h6, h7⟩ := He.ba h
  exact ⟨fb, sf, h1, h2, h3, He.eqO_ok h4, of_decide_eq_true h5, of_decide_eq_true h6, h7⟩
abbrev tlB (B : String) : List Value := [.type B, .type "Exception", .type "BaseException", .type "object"]
theorem chB_VE {K : PySem.W.Frag} {x : Str} (h : chB K x (tlB "ValueError") "ValueError.__new__" = true) : XcB K (He.ga K x) "ValueError" "ValueError.__new__" "ValueError.__init__" (tlB "ValueError") := chB_ok PySem.F.excBase_ValueError PySem.F.store_ValueError h
theorem chB_LE {K : PySem.W.Frag} {x : Str} (h : chB K x (tlB "LookupError") "LookupError.__new__" = true) : XcB K (He.ga K x) "LookupError" "LookupError.__new__" "LookupError.__init__" (tlB "LookupError") := chB_ok PySem.F.excBase_LookupError PySem.F.store_LookupError h
theorem chB_RE {K : PySem.W.Frag} {x : Str} (h : chB K x (tlB "RuntimeError") "RuntimeError.__new__" = true) : XcB K (He.ga K x) "RuntimeError" "RuntimeError.__new__" "RuntimeError.__init__" (tlB "RuntimeError") := chB_ok PySem.F.excBase_RuntimeError PySem.F.store_RuntimeError h
def chI (K : PySem.W.Frag) (x : Str) (initId : String) : Bool := He.eqO (PySem.W.specialIn K (.ref (He.ga K x)) "__getattribute__") (some (some (.builtin "type.__getattribute__"))) && (decide (PySem.W.typeIn K (.ref (He.ga K x)) = some (.type "type")) && (PySem.W.readsIn K (He.ga K x) (.type "type") &&
  (match PySem.W.findCls K (.ref (He.ga K x)) (.type "type") "__init__" with
    | some (.val (.builtin n)) => decide (n = initId)
    | _ => false)))
theorem chI_ok {K : PySem.W.Frag} {x : Str} {initId : String} (h : chI K x initId = true) : XcI K (He.ga K x) initId := by
  obtain ⟨h1, h⟩ := He.ba h
  obtain ⟨h2, h⟩ := He.ba h
  obtain ⟨h3, h4⟩ := He.ba h
  refine ⟨He.eqO_ok h1, of_decide_eq_true h2, h3, ?_⟩
  split at h4
  · rename_i n e
    rw [e, of_decide_eq_true h4]
  · cases h4
def chC (K : PySem.W.Frag) (x : Str) : Bool := He.eqO (PySem.W.findIn K (.ref (He.ga K x)) "__getattribute__") (some (some (.builtin "BaseException.__getattribute__"))) && (He.eqO (PySem.W.findIn K (.ref (He.ga K x)) "__getattr__") (some none) &&
  (decide (PySem.W.subIn K (.ref (He.ga K x)) (.type "BaseException") = some true) && (PySem.W.hasDictIn K (He.ga K x) && (He.eqO (PySem.W.findIn K (.ref (He.ga K x)) "__class__") (some (some (.builtin "object.__class__"))) &&
  (He.eqO (PySem.W.specialIn K (.builtin "object.__class__") "__get__") (some (some (.builtin "getset_descriptor.__get__"))) && (decide (PySem.W.takesIn K (.builtin "object.__class__") = some true) && decide (PySem.W.mroIn K (He.ga K x) (.type "object") = some true)))))))
theorem chC_ok {K : PySem.W.Frag} {x : Str} (h : chC K x = true) : ExcC K (He.ga K x) := by
  obtain ⟨h1, h⟩ := He.ba h
  obtain ⟨h2, h⟩ := He.ba h
  obtain ⟨h3, h⟩ := He.ba h
  obtain ⟨h4, h⟩ := He.ba h
  obtain ⟨h5, h⟩ := He.ba h
  obtain ⟨h6, h⟩ := He.ba h
  obtain ⟨h7, h8⟩ := He.ba h
  exact ⟨He.eqO_ok h1, He.eqO_ok h2, of_decide_eq_true h3, h4, He.eqO_ok h5, He.eqO_ok h6, of_decide_eq_true h7, of_decide_eq_true h8⟩
def chN (K : PySem.W.Frag) (x f : Str) : Bool := He.eqO (PySem.W.findIn K (.ref (He.ga K x)) f) (some none)
theorem chN_ok {K : PySem.W.Frag} {x f : Str} (h : chN K x f = true) : PySem.W.findIn K (.ref (He.ga K x)) f = some none := He.eqO_ok h
def chF (K : PySem.W.Frag) (x : Str) : Bool := He.eqO (PySem.W.findIn K (.ref (He.ga K x)) "__init__") (some (some (.ref (mA K x "__init__")))) && decide (PySem.W.typeIn K (.ref (mA K x "__init__")) = some (.type "function"))
theorem chF_ok {K : PySem.W.Frag} {x : Str} (h : chF K x = true) : PySem.W.findIn K (.ref (He.ga K x)) "__init__" = some (some (.ref (mA K x "__init__"))) ∧ PySem.W.typeIn K (.ref (mA K x "__init__")) = some (.type "function") := ⟨He.eqO_ok (He.ba h).1, of_decide_eq_true (He.ba h).2⟩
def chM (K : PySem.W.Frag) (x y : Str) (b : Bool) : Bool := decide (PySem.W.exmOne K (.ref (He.ga K x)) (.ref (He.ga K y)) = some b)
theorem chM_ok {K : PySem.W.Frag} {x y : Str} {b : Bool} (h : chM K x y b = true) : PySem.W.exmOne K (.ref (He.ga K x)) (.ref (He.ga K y)) = some b := of_decide_eq_true h
def chK (K : PySem.W.Frag) (x y : Str) (b : Bool) : Bool := decide (PySem.W.kitOne K (.ref (He.ga K x)) (.ref (He.ga K y)) = some b)
theorem chK_ok {K : PySem.W.Frag} {x y : Str} {b : Bool} (h : chK K x y b = true) : PySem.W.kitOne K (.ref (He.ga K x)) (.ref (He.ga K y)) = some b := of_decide_eq_true h
def chT (K : PySem.W.Frag) (x : Str) (y : String) (b : Bool) : Bool := decide (PySem.W.kitOne K (.ref (He.ga K x)) (.type y) = some b)
theorem chT_ok {K : PySem.W.Frag} {x : Str} {y : String} {b : Bool} (h : chT K x y b = true) : PySem.W.kitOne K (.ref (He.ga K x)) (.type y) = some b := of_decide_eq_true h
theorem exm_cons {K : PySem.W.Frag} {cls c : Value} {cs : List Value} {b d : Bool} (h : PySem.W.exmOne K cls c = some b) (h2 : PySem.W.exmAny K cls cs = some d) : PySem.W.exmAny K cls (c :: cs) = some (b || d) := by
  unfold PySem.W.exmAny
  rw [h, h2]
/-! ### more -/
theorem pasF {X : Cx} {σ : L2.St} : PassesAt (L2.CX X.prog X.w) X σ (WE W0 σ) := fun _ _ _ _ _ _ ⟨_, _, _, _, _, _, _, _, _, _, _, _, z⟩ => z.elim
def tTry (K : PySem.W.Frag) (W : WX) (tb : WX → TS) (l : List Hd) : TS := fun D σ H => tb (wTry K W D l) D σ H
theorem ps_tryT {X : Cx} {body : List Stmt} {h₀ : ExceptHandler} {hds : List ExceptHandler} {l : List Hd} {pos : Pos} {tb : WX → TS} {W : WX} (hs : X.stack = X.env :: X.outer) (hf : X.env.frame = some X.env.locals) (hN : X.N.Nodup) (tk : Takes X W)
    (hb : ∀ (W' : WX) (pn : List (Addr × Obj)) (xe : Value → Shared → Prop), Takes (X.tr pn xe) W' → PassesOwn (model X.prog X.w) X.A X.env xe → PSs (X.tr pn xe) body (tb W'))
    (hh : HdOk X (h₀ :: hds) l) : PS X (.Try body (h₀ :: hds) [] [] pos) (tTry X.K W tb l) := ps_tryG hs hf hN tk hb hh
theorem roomMark {k : Nat} {A : Around} {h : Option Value} (r : Room k A) : L2H.RoomH k (A.mark h) := ⟨r.dp, r.un⟩
def rSortDI : List V → Hp → VK → Prop := fun xs H Q => ∃ (a : Addr) (kvs : List (Key × V)) (ks : List Int), xs = [.ref a] ∧ Rd H a (.dK kvs) ∧ kvs.map (·.1) = ks.map Sum.inl ∧ ks.length < 64 ∧
  ∀ (ys : List Int) (p : Addr), ys.Perm ks → ys.Pairwise (· ≤ ·) → H p = none → Q (.ref p) (upd H p (.lst (ys.map V.int)))
theorem cr_sortedDI {X : Cx} (h : X.calm = true) : CallR X (.builtin "sorted") rSortDI := call_sortedDI h
def rDictD : List V → Hp → VK → Prop := fun xs H Q => ∃ (a : Addr) (kvs : List (Key × V)), xs = [.ref a] ∧ Rd H a (.dK kvs) ∧ ∀ p, H p = none → Q (.ref p) (upd H p (.dK kvs))
theorem cr_dictD {X : Cx} : CallR X (.type "dict") rDictD := call_dictD
end RC

namespace RC
open PySem PySem.Spec PyProof.Rows L2
section
variable {K : PySem.W.Frag} {σ : L2.St} {H : Hp} {Q : VK} {D : Ends} {Rs : List Res} {E : XK} {W : WX} {sp : Sp} {dvs : List V} {t : TA} {ta te tb tc : TE} {C a : Addr} {m f : Str} {v : V}
theorem g_callW (k : t σ H fun vs H1 => sp (vs ++ dvs) H1 Q (WE W σ)) : tCallW W sp dvs t σ H Q := k
def MethK (W : WX) (C : Addr) (m : Str) (sp : Sp) (dvs : List V) (t : TA) (σ : L2.St) (Q : VK) : VK := fun x H1 => ∃ a dx fs, x = .ref a ∧ H1 a = some (.ins C dx fs) ∧ fs.lookup m = none ∧ t σ H1 fun vs H2 => sp (x :: (vs ++ dvs)) H2 Q (WE W σ)
theorem g_meth (k : ta σ H (MethK W C m sp dvs t σ Q)) : tMethW W C m sp dvs ta t σ H Q := k
theorem v_meth {dx : Addr} {fs : List (Str × V)} (h : H a = some (.ins C dx fs)) (l : fs.lookup m = none) (k : t σ H fun vs H2 => sp (.ref a :: (vs ++ dvs)) H2 Q (WE W σ)) : MethK W C m sp dvs t σ Q (.ref a) H := ⟨a, dx, fs, rfl, h, l, k⟩
def MakeK (W : WX) (C : Addr) (sp : Sp) (dvs : List V) (σ : L2.St) (Q : VK) : List V → Hp → Prop := fun vs H1 => ∀ x dx, H1 x = none → H1 dx = none → dx ≠ x → sp (.ref x :: (vs ++ dvs)) (upd (upd H1 dx (.own x)) x (.ins C dx [])) (fun v H2 => v = .non ∧ Q (.ref x) H2) (WE W σ)
theorem g_make (k : t σ H (MakeK W C sp dvs σ Q)) : tMakeW W C sp dvs t σ H Q := k
theorem v_make {vs : List V} (S : M Rs H) (k : ∀ x dx H', M (pt x (.ins C dx []) :: pt dx (.own x) :: Rs) H' → sp (.ref x :: (vs ++ dvs)) H' (fun v H2 => v = .non ∧ Q (.ref x) H2) (WE W σ)) : MakeK W C sp dvs σ Q vs H := by
  intro x dx hx hdx hne
  exact k x dx _ ((S.new hdx).new (by rw [upd_ne (fun z => hne z.symm)]; exact hx))
def FldK (K : PySem.W.Frag) (f : Str) (Q : VK) : VK := fun x H1 => ∃ a C dx fs v, x = .ref a ∧ H1 a = some (.ins C dx fs) ∧ Cls K C ∧ NoAttr K C f ∧ fs.lookup f = some v ∧ Q v H1
theorem g_fld (k : ta σ H (FldK K f Q)) : tFld K ta f σ H Q := k
theorem v_fld {dx : Addr} {fs : List (Str × V)} (h : H a = some (.ins C dx fs)) (c : Cls K C) (n : NoAttr K C f) (l : fs.lookup f = some v) (k : Q v H) : FldK K f Q (.ref a) H := ⟨a, C, dx, fs, v, rfl, h, c, n, l, k⟩
def SFldK (K : PySem.W.Frag) (f : Str) (y : V) (σ : L2.St) (D : Ends) : VK := fun x H2 => ∃ a C dx fs, x = .ref a ∧ H2 a = some (.ins C dx fs) ∧ Cls K C ∧ NoAttr K C f ∧ fs.length < 1000 ∧ D.nx σ (upd H2 a (.ins C dx (putF f y fs)))
theorem g_sfld (k : te σ H fun y H1 => ta σ H1 (SFldK K f y σ D)) : sFld K ta te f D σ H := k
theorem v_sfld {dx : Addr} {fs : List (Str × V)} {y : V} (S : M Rs H) (i : Nat) (e : Rs[i]? = some (pt a (.ins C dx fs))) (c : Cls K C) (n : NoAttr K C f) (l : fs.length < 1000) (k : ∀ H', M (Rs.set i (pt a (.ins C dx (putF f y fs)))) H' → D.nx σ H') : SFldK K f y σ D (.ref a) H :=
  ⟨a, C, dx, fs, rfl, S.got i e, c, n, l, k _ (S.putAt i e)⟩
def RzK (W : WX) (C : Addr) (f : Str) (σ : L2.St) : VK := fun v H1 => ∀ d, H1 d = none → W (.ref C) (some d) σ (upd H1 d (.xd [(f, v)]))
theorem g_rz (k : te σ H (RzK W C f σ)) : tRz W C f te D σ H := k
theorem v_rz (S : M Rs H) (k : ∀ d H', M (pt d (.xd [(f, v)]) :: Rs) H' → W (.ref C) (some d) σ H') : RzK W C f σ v H := fun d hd => k d _ (S.new hd)
theorem v_dnew (S : M Rs H) (k : ∀ d H', M (pt d (.dK []) :: Rs) H' → Q (.ref d) H') : tDNewK σ H Q := fun d hd => k d _ (S.new hd)
def Pop1K (ty : TE) (σ : L2.St) (Q : VK) : VK := fun x H1 => ∃ a, x = .ref a ∧ IsD H1 a ∧ ty σ H1 fun y H2 => ∃ kvs k v, H2 a = some (.dK kvs) ∧ y = kV k ∧ valV kvs k = some v ∧ Q v (upd H2 a (.dK (dropK kvs k)))
theorem g_dpop (k : ta σ H (Pop1K tb σ Q)) : tDPop1 ta tb σ H Q := k
def PopV (a : Addr) (Q : VK) : VK := fun y H2 => ∃ kvs k v, H2 a = some (.dK kvs) ∧ y = kV k ∧ valV kvs k = some v ∧ Q v (upd H2 a (.dK (dropK kvs k)))
theorem v_dpop {kvs : List (Key × V)} (h : H a = some (.dK kvs)) (k : tb σ H (PopV a Q)) : Pop1K tb σ Q (.ref a) H := ⟨a, rfl, .inl ⟨kvs, .inl h⟩, k⟩
theorem v_popI {kvs : List (Key × V)} {n : Int} (S : M Rs H) (i : Nat) (e : Rs[i]? = some (pt a (.dK kvs))) (hv : valV kvs (Sum.inl n) = some v) (k : ∀ H', M (Rs.set i (pt a (.dK (dropK kvs (Sum.inl n))))) H' → Q v H') : PopV a Q (.int n) H :=
  ⟨kvs, Sum.inl n, v, S.got i e, rfl, hv, k _ (S.putAt i e)⟩
theorem v_popS {kvs : List (Key × V)} {n : Str} (S : M Rs H) (i : Nat) (e : Rs[i]? = some (pt a (.dK kvs))) (hv : valV kvs (Sum.inr n) = some v) (k : ∀ H', M (Rs.set i (pt a (.dK (dropK kvs (Sum.inr n))))) H' → Q v H') : PopV a Q (.str n) H :=
  ⟨kvs, Sum.inr n, v, S.got i e, rfl, hv, k _ (S.putAt i e)⟩
theorem v_ixK {kvs : List (Key × V)} {n : Int} (h : H a = some (.dK kvs)) (hv : valV kvs (Sum.inl n) = some v) (k : Q v H) : rIxK (.ref a) (.int n) H Q := ⟨a, v, rfl, by rw [← hv]; exact DGet.k (k := Sum.inl n) h, k⟩
theorem v_ixKS {kvs : List (Key × V)} {n : Str} (h : H a = some (.dK kvs)) (hv : valV kvs (Sum.inr n) = some v) (k : Q v H) : rIxK (.ref a) (.str n) H Q := ⟨a, v, rfl, by rw [← hv]; exact DGet.k (k := Sum.inr n) h, k⟩
theorem v_gIxK {kvs : List (Key × V)} {n : Int} (h : H a = some (.dK kvs)) (hv : valV kvs (Sum.inl n) = some v) (k : Q v H) : gIx K (.ref a) (.int n) H Q := .inr ⟨a, v, rfl, by rw [← hv]; exact DGet.k (k := Sum.inl n) h, k⟩
theorem v_gIxKS {kvs : List (Key × V)} {n : Str} (h : H a = some (.dK kvs)) (hv : valV kvs (Sum.inr n) = some v) (k : Q v H) : gIx K (.ref a) (.str n) H Q := .inr ⟨a, v, rfl, by rw [← hv]; exact DGet.k (k := Sum.inr n) h, k⟩
theorem v_put {kvs : List (Key × V)} {n : Int} {Q : Hp → Prop} (S : M Rs H) (i : Nat) (e : Rs[i]? = some (pt a (.dK kvs))) (hz : kvs.length < 100000) (k : ∀ H', M (Rs.set i (pt a (.dK (putK kvs (Sum.inl n) v)))) H' → Q H') : uSet (.ref a) (.int n) v H Q :=
  .inr ⟨a, _, rfl, DPut.k (k := Sum.inl n) (S.got i e) (Nat.lt_of_lt_of_le hz (by decide)), k _ (S.putAt i e)⟩
theorem v_putS {kvs : List (Key × V)} {n : Str} {Q : Hp → Prop} (S : M Rs H) (i : Nat) (e : Rs[i]? = some (pt a (.dK kvs))) (hz : kvs.length < 100000) (k : ∀ H', M (Rs.set i (pt a (.dK (putK kvs (Sum.inr n) v)))) H' → Q H') : uSet (.ref a) (.str n) v H Q :=
  .inr ⟨a, _, rfl, DPut.k (k := Sum.inr n) (S.got i e) (Nat.lt_of_lt_of_le hz (by decide)), k _ (S.putAt i e)⟩
theorem v_inK {kvs : List (Key × V)} {n : Int} (h : H a = some (.dK kvs)) (k : Q (.bl (valV kvs (Sum.inl n)).isSome) H) : uIn K (.int n) (.ref a) H Q := .inr (.inr (.inl ⟨a, _, rfl, DGet.k (k := Sum.inl n) h, k⟩))
theorem v_ninK {kvs : List (Key × V)} {n : Int} (h : H a = some (.dK kvs)) (k : Q (.bl (!(valV kvs (Sum.inl n)).isSome)) H) : uNotIn K (.int n) (.ref a) H Q := .inr (.inr (.inl ⟨a, _, rfl, DGet.k (k := Sum.inl n) h, k⟩))
theorem v_inKS {kvs : List (Key × V)} {n : Str} (h : H a = some (.dK kvs)) (k : Q (.bl (valV kvs (Sum.inr n)).isSome) H) : uIn K (.str n) (.ref a) H Q := .inr (.inr (.inl ⟨a, _, rfl, DGet.k (k := Sum.inr n) h, k⟩))
theorem v_ninKS {kvs : List (Key × V)} {n : Str} (h : H a = some (.dK kvs)) (k : Q (.bl (!(valV kvs (Sum.inr n)).isSome)) H) : uNotIn K (.str n) (.ref a) H Q := .inr (.inr (.inl ⟨a, _, rfl, DGet.k (k := Sum.inr n) h, k⟩))
theorem v_lenD {kvs : List (Key × V)} (h : H a = some (.dK kvs)) (k : Q (.int (kvs.length : Nat)) H) : uLen K [.ref a] H Q := .inr ⟨a, kvs, rfl, h, k⟩
theorem v_isi {x : V} {ty : Value} {c : String} {b : Bool} (h : TyX K H x ty) (e : PySem.W.kitOne K ty (.type c) = some b) (k : Q (.bl b) H) : rIsi K [x, .ty c] H Q := ⟨x, .ty c, ty, _, b, rfl, .ty c, h, e, k⟩
theorem g_callE {cls : Value} {d : Option Addr} {sp : Addr → Value → Option Addr → Hp → VK → Prop} (k : te σ H fun x H1 => x = .ref a ∧ sp a cls d H1 Q) : tCallE a cls d sp te σ H Q := k
theorem g_xg {cls : Value} {d : Option Addr} {n : Str} (k : te σ H fun x H1 => x = .ref a ∧ ∃ D dd fs v, cls = .ref D ∧ ExcC K D ∧ PySem.W.findIn K (.ref D) n = some none ∧ d = some dd ∧ H1 dd = some (.xd fs) ∧ fs.lookup n = some v ∧ Q v H1) : tXg K a cls d n te σ H Q := k
theorem v_xg {D dd : Addr} {fs : List (Str × V)} {n : Str} (c : ExcC K D) (hn : PySem.W.findIn K (.ref D) n = some none) (h : H dd = some (.xd fs)) (l : fs.lookup n = some v) (k : Q v H) :
    V.ref a = .ref a ∧ ∃ D' dd' fs' v', Value.ref D = .ref D' ∧ ExcC K D' ∧ PySem.W.findIn K (.ref D') n = some none ∧ some dd = some dd' ∧ H dd' = some (.xd fs') ∧ fs'.lookup n = some v' ∧ Q v' H := ⟨rfl, D, dd, fs, v, rfl, c, hn, rfl, h, l, k⟩
theorem v_isX {D dd B : Addr} {fs : List (Str × V)} {b : Bool} (c : ExcC K D) (h : H dd = some (.xd fs)) (e : PySem.W.kitOne K (.ref D) (.ref B) = some b) (k : Q (.bl b) H) : uIsX K a (.ref D) (some dd) [.ref a, .ref B] H Q :=
  .inl ⟨.ref B, .ref B, b, rfl, ⟨D, rfl, c, .inr ⟨dd, fs, rfl, h⟩⟩, .own B, e, k⟩
theorem v_isXT {D dd : Addr} {fs : List (Str × V)} {B : String} {b : Bool} (c : ExcC K D) (h : H dd = some (.xd fs)) (e : PySem.W.kitOne K (.ref D) (.type B) = some b) (k : Q (.bl b) H) : uIsX K a (.ref D) (some dd) [.ref a, .ty B] H Q :=
  .inl ⟨.ty B, .type B, b, rfl, ⟨D, rfl, c, .inr ⟨dd, fs, rfl, h⟩⟩, .ty B, e, k⟩
theorem g_try {tb : WX → TS} {l : List Hd} (k : tb (wTry K W D l) D σ H) : tTry K W tb l D σ H := k
end
/-! ### sorted -/
theorem sorted_eq : ∀ {xs ys : List Int}, xs.Perm ys → xs.Pairwise (· ≤ ·) → ys.Pairwise (· ≤ ·) → xs = ys
  | [], ys, p, _, _ => (List.nil_perm.mp p).symm
  | x :: xs, [], p, _, _ => absurd p.length_eq (by simp)
  | x :: xs, y :: ys, p, h1, h2 => by
    obtain ⟨a1, a2⟩ := List.pairwise_cons.mp h1
    obtain ⟨b1, b2⟩ := List.pairwise_cons.mp h2
    have e : x = y := by
      have m1 : y ∈ x :: xs := p.mem_iff.mpr List.mem_cons_self
      have m2 : x ∈ y :: ys := p.mem_iff.mp List.mem_cons_self
      rcases List.mem_cons.mp m1 with z | z
      · exact z.symm
      · rcases List.mem_cons.mp m2 with w | w
        · exact w
        · have := a1 y z
          have := b1 x w
          omega
    subst e
    rw [sorted_eq (List.Perm.cons_inv p) a2 b2]
def srt (ks : List Int) : List Int := ks.mergeSort (fun a b => decide (a ≤ b))
theorem srt_perm (ks : List Int) : (srt ks).Perm ks := List.mergeSort_perm _ _
theorem srt_sorted (ks : List Int) : (srt ks).Pairwise (· ≤ ·) := by
  have h := List.pairwise_mergeSort (le := fun a b : Int => decide (a ≤ b)) (by intro a b c h1 h2; simp at *; omega) (by intro a b; simp; omega) ks
  exact h.imp fun z => by simpa using z
theorem srt_eq {xs ks : List Int} (p : xs.Perm ks) (h : xs.Pairwise (· ≤ ·)) : xs = srt ks := sorted_eq (p.trans (srt_perm ks).symm) h (srt_sorted ks)
theorem v_sortDI {H : Hp} {Q : VK} {Rs : List Res} {a : Addr} {kvs : List (Key × V)} {ks : List Int} (S : M Rs H) (h : H a = some (.dK kvs)) (e : kvs.map (·.1) = ks.map Sum.inl) (hz : ks.length < 64) (k : ∀ p H', M (pt p (.lst ((srt ks).map V.int)) :: Rs) H' → Q (.ref p) H') :
    rSortDI [.ref a] H Q := by
  refine ⟨a, kvs, ks, rfl, .inl h, e, hz, fun ys p hp hs hn => ?_⟩
  rw [srt_eq hp hs]
  exact k p _ (S.new hn)
theorem v_dictD {H : Hp} {Q : VK} {Rs : List Res} {a : Addr} {kvs : List (Key × V)} (S : M Rs H) (h : H a = some (.dK kvs)) (k : ∀ p H', M (pt p (.dK kvs) :: Rs) H' → Q (.ref p) H') : rDictD [.ref a] H Q := ⟨a, kvs, rfl, .inl h, fun p hn => k p _ (S.new hn)⟩
theorem Ent.tl {Rs : List Res} {R : Res} {φ : Hp → Prop} (h : Ent Rs φ) : Ent (R :: Rs) φ := fun H S => h H S.tl
theorem Ent.tl2 {Rs : List Res} {R R' : Res} {φ : Hp → Prop} (h : Ent Rs φ) : Ent (R :: R' :: Rs) φ := h.tl.tl
theorem Ent.imp {Rs : List Res} {φ ψ : Hp → Prop} (h : Ent Rs φ) (i : ∀ H, φ H → ψ H) : Ent Rs ψ := fun H S => i H (h H S)
theorem M.new' {Rs : List Res} {H : Hp} (S : M Rs H) : ∀ p o, H p = none → M (pt p o :: Rs) (upd H p o) := fun _ _ h => S.new h
end RC

namespace RC
open PySem PySem.Spec PyProof.Rows L2
/-- int(truth) -/
def rIntB : List V → Hp → VK → Prop := fun xs H Q => ∃ b : Bool, xs = [.bl b] ∧ Q (.int (if b then 1 else 0)) H
theorem cr_intB {X : Cx} : CallR X (.type "int") rIntB := by
  intro pins s σ H xs us Q I rs h
  obtain ⟨b, rfl, h⟩ := h
  cases rs with
  | cons r1 rs =>
    cases rs
    cases r1
    exact call_int_1 (meets_int_new_bool b) (show (Made.int _).post _ s from ⟨rfl, ⟨.int _, H, I.tok _, ⟨_, rfl⟩, h⟩⟩)
theorem v_intB {b : Bool} {H : Hp} {Q : VK} (k : Q (.int (if b then 1 else 0)) H) : rIntB [.bl b] H Q := ⟨b, rfl, k⟩
end RC

namespace RC
open PySem PySem.Spec PyProof.Rows L2
local macro_rules | `(tactic| walk_at "S") => `(tactic| assumption)
local macro_rules | `(tactic| walk_at "hp") => `(tactic| first
  | assumption
  | exact M.got (by assumption) 0 rfl | exact M.got (by assumption) 1 rfl | exact M.got (by assumption) 2 rfl | exact M.got (by assumption) 3 rfl | exact M.got (by assumption) 4 rfl
  | exact M.got (by assumption) 5 rfl | exact M.got (by assumption) 6 rfl | exact M.got (by assumption) 7 rfl | exact M.got (by assumption) 8 rfl
  | exact M.gotF (by assumption) 0 rfl | exact M.gotF (by assumption) 1 rfl | exact M.gotF (by assumption) 2 rfl | exact M.gotF (by assumption) 3 rfl | exact M.gotF (by assumption) 4 rfl
  | exact M.gotF (by assumption) 5 rfl | exact M.gotF (by assumption) 6 rfl | exact M.gotF (by assumption) 7 rfl | exact M.gotF (by assumption) 8 rfl)
local macro_rules | `(tactic| walk_at "sl") => `(tactic| first
  | assumption
  | exact SqL.of (by walk_at "hp")
  | exact M.gotR (by assumption) 0 rfl | exact M.gotR (by assumption) 1 rfl | exact M.gotR (by assumption) 2 rfl | exact M.gotR (by assumption) 3 rfl)
local macro_rules | `(tactic| walk_at "mul") => `(tactic| first
  | exact Or.inl (Or.inr ⟨by decide, by decide⟩) | exact Or.inl (Or.inl ⟨by decide, by decide⟩) | exact Or.inl (Or.inr ⟨by omega, by omega⟩) | exact Or.inl (Or.inl ⟨by omega, by omega⟩))
local macro_rules | `(tactic| walk_at "sq") => `(tactic| first | assumption | exact SqT.of (by walk_at "hp"))
local macro_rules | `(tactic| walk_at "sts") => `(tactic| first
  | with_reducible refine g_asg ?_
  | with_reducible refine g_asgX ?_
  | with_reducible refine g_drop ?_
  | with_reducible refine g_ret ?_
  | with_reducible refine g_retN ?_
  | with_reducible refine g_if ?_
  | with_reducible refine g_next ?_
  | with_reducible refine g_bk ?_
  | with_reducible refine g_ct ?_
  | with_reducible refine g_augS ?_
  | with_reducible refine g_for ?_
  | with_reducible refine g_while ?_
  | with_reducible refine g_par ?_
  | ((with_reducible refine' g_aug ?hh ?kk); (case hh => exact rfl)))
local macro_rules | `(tactic| walk_at "ev1") => `(tactic| first
  | with_reducible refine g_rt ?_
  | with_reducible refine g_lc ?_
  | with_reducible refine g_iList ?_
  | with_reducible refine g_iRng1 ?_
  | with_reducible refine g_iRev ?_
  | with_reducible refine g_yes ?_
  | ((with_reducible refine' g_wipe ?hh ?kk); (case hh => exact rfl))
  | with_reducible refine g_name ?_
  | ((with_reducible refine' g_var ?hh ?kk); (case hh => exact rfl))
  | with_reducible refine g_c ?_
  | with_reducible refine g_op ?_
  | with_reducible refine g_un ?_
  | with_reducible refine g_nil ?_
  | with_reducible refine g_cons ?_
  | with_reducible refine g_cb ?_
  | with_reducible refine g_call ?_
  | with_reducible refine g_lst ?_
  | with_reducible refine g_tup ?_
  | with_reducible refine g_test ?_
  | with_reducible refine g_B ?_
  | with_reducible refine g_bl ?_
  | with_reducible refine g_int ?_
  | with_reducible refine g_and ?_
  | with_reducible refine g_or ?_
  | with_reducible refine g_not ?_
  | with_reducible refine g_andV ?_
  | with_reducible refine g_orV ?_
  | with_reducible refine g_notV ?_
  | with_reducible refine g_ifE ?_
  | with_reducible refine g_chain ?_
  | with_reducible refine g_sub ?_
  | with_reducible refine g_sl ?_
  | with_reducible refine g_noPart ?_
  | with_reducible refine g_part ?_
  | with_reducible refine g_rev ?_
  | with_reducible refine g_bm ?_
  | with_reducible refine g_bm0 ?_
  | with_reducible refine v_add ?_
  | with_reducible refine v_sub ?_
  | with_reducible refine v_iadd ?_
  | with_reducible refine v_isub ?_
  | with_reducible refine v_lt ?_
  | with_reducible refine v_le ?_
  | with_reducible refine v_gt ?_
  | with_reducible refine v_ge ?_
  | with_reducible refine v_eqI ?_
  | with_reducible refine v_neI ?_
  | with_reducible refine v_eqS ?_
  | with_reducible refine v_eqB ?_
  | with_reducible refine v_neB ?_
  | ((with_reducible refine' v_mod ?hh ?kk); (case hh => first | decide | omega))
  | ((with_reducible refine' v_mul ?hh ?kk); (case hh => walk_at "mul"))
  | ((with_reducible refine' v_imul ?hh ?kk); (case hh => first | exact Or.inr ⟨by decide, by decide⟩ | exact Or.inl ⟨by decide, by decide⟩ | exact Or.inr ⟨by omega, by omega⟩ | exact Or.inl ⟨by omega, by omega⟩))
  | ((with_reducible refine' v_div ?hh ?kk); (case hh => first | decide | exact ⟨by omega, by omega⟩))
  | ((with_reducible refine' v_idiv ?hh ?kk); (case hh => first | exact ⟨by decide, by decide⟩ | exact ⟨by omega, by omega⟩))
  | ((with_reducible refine' v_ixL ?hs ?hh ?kk); (case hs => walk_at "sl"); (case hh => exact rfl))
  | ((with_reducible refine' v_ixT ?hs ?hh ?kk); (case hs => walk_at "sq"); (case hh => exact rfl))
  | ((with_reducible refine' v_get ?hs ?h0 ?hh ?kk); (case hs => walk_at "sl"); (case h0 => decide); (case hh => exact rfl))
  | ((with_reducible refine' v_lenL ?hs ?kk); (case hs => walk_at "sl"))
  | ((with_reducible refine' v_pow ?hh ?kk); (case hh => decide +kernel))
  | with_reducible refine v_abs ?_
  | with_reducible refine v_neg ?_
  | with_reducible refine v_isN ?_
  | with_reducible refine v_notN ?_
  | with_reducible refine v_two ?_
  | with_reducible refine g_callN ?_
  | ((with_reducible refine' v_lens ?h1 ?h2 ?kk); (case h1 => exact rfl); (case h2 => exact rfl))
  | ((with_reducible refine' g_gtup ?h1 ?h2 ?kk); (case h1 => walk_at "sq"); (case h2 => exact rfl))
  | with_reducible refine g_gcons ?_
  | with_reducible refine g_gnil ?_
  | with_reducible refine v_ifNT ?_
  | with_reducible refine v_ifNF ?_
  | with_reducible refine v_ifT ?_
  | with_reducible refine v_ifF ?_)
local macro_rules | `(tactic| walk_at "ev") => `(tactic| repeat walk_at "ev1")
local macro_rules | `(tactic| walk_at "nx") => `(tactic| repeat with_reducible refine g_nx ?_)
local macro_rules | `(tactic| walk_at "st") => `(tactic| ((repeat first | with_reducible refine g_nx ?_ | with_reducible refine g_seq ?_); walk_at "sts"; walk_at "ev"))
local macro_rules | `(tactic| walk_at "go1") => `(tactic| first | with_reducible refine g_nx ?_ | with_reducible refine g_seq ?_ | walk_at "sts" | walk_at "ev1")
local macro_rules | `(tactic| walk_at "go") => `(tactic| repeat walk_at "go1")
local macro_rules | `(tactic| walk_at "sub1") => `(tactic| first
  | exact Sub.refl _ | exact Sub.nil _
  | refine Sub.cons 0 rfl ?_ | refine Sub.cons 1 rfl ?_ | refine Sub.cons 2 rfl ?_ | refine Sub.cons 3 rfl ?_ | refine Sub.cons 4 rfl ?_ | refine Sub.cons 5 rfl ?_ | refine Sub.cons 6 rfl ?_ | refine Sub.cons 7 rfl ?_
  | refine Sub.cons 8 rfl ?_ | refine Sub.cons 9 rfl ?_ | refine Sub.cons 10 rfl ?_ | refine Sub.cons 11 rfl ?_ | refine Sub.cons 12 rfl ?_ | refine Sub.cons 13 rfl ?_ | refine Sub.cons 14 rfl ?_ | refine Sub.cons 15 rfl ?_ | refine Sub.tl ?_)
local macro_rules | `(tactic| walk_at "sub") => `(tactic| (refine M.sub ?_ (by assumption); repeat walk_at "sub1"))
local macro_rules | `(tactic| walk_at "sts") => `(tactic| first
  | with_reducible refine g_sfld ?_
  | with_reducible refine g_rz ?_
  | with_reducible refine g_try ?_)
local macro_rules | `(tactic| walk_at "ev1") => `(tactic| first
  | with_reducible refine g_callW ?_
  | with_reducible refine g_meth ?_
  | with_reducible refine g_make ?_
  | with_reducible refine g_fld ?_
  | with_reducible refine g_dpop ?_
  | with_reducible refine g_callE ?_
  | with_reducible refine g_xg ?_)
/-! ### things of any kind -/
inductive Thing where
  | int (n : Int)
  | lst (xs : List V)
  | oth
inductive Thg (K : PySem.W.Frag) (H : Hp) : V → Thing → Prop where
  | int (n : Int) : Thg K H (.int n) (.int n)
  | lst {a : Addr} {xs : List V} (h : SqL K H a xs) : Thg K H (.ref a) (.lst xs)
  | oth {v : V} {t : String} (h : TyX K H v (.type t)) (ht : t ∈ ["NoneType", "bool", "str", "tuple", "dict"]) : Thg K H v .oth
theorem sq_ty {K : PySem.W.Frag} {H : Hp} {a : Addr} {xs : List V} (h : SqL K H a xs) : TyX K H (.ref a) (.type "list") := by
  rcases h with (h | ⟨o, h⟩) | ⟨o, its, n, h, hc, _⟩
  · exact .base (.lst h)
  · exact .base (.frz h)
  · exact .kList h hc
def Thing.isInt : Thing → Bool
  | .int _ => true
  | _ => false
def Thing.isLst : Thing → Bool
  | .lst _ => true
  | _ => false
/-- isinstance(v, int) and not isinstance(v, bool): by the two answers -/
theorem thg_int {K : PySem.W.Frag} {H : Hp} {v : V} {th : Thing} {Q : VK} (h : Thg K H v th) (k1 : th.isInt = true → rIsi K [v, .ty "bool"] H (fun x H' => x = .bl false ∧ H' = H) → Q (.bl true) H)
    (k2 : ∀ b : Bool, th.isInt = false → (b = true → ∀ R : VK, R (.bl true) H → rIsi K [v, .ty "bool"] H R) → Q (.bl b) H) : rIsi K [v, .ty "int"] H Q := by
  cases h with
  | int n => exact v_isi (.base (.int n)) (kit_ty (by decide +kernel)) (k1 rfl (v_isi (.base (.int n)) (kit_ty (by decide +kernel)) ⟨rfl, rfl⟩))
  | lst h => exact v_isi (sq_ty h) (kit_ty (by decide +kernel)) (k2 false rfl (fun z => nomatch z))
  | @oth v t h ht =>
    simp only [List.mem_cons, List.not_mem_nil, or_false] at ht
    rcases ht with rfl | rfl | rfl | rfl | rfl
    · exact v_isi h (kit_ty (by decide +kernel)) (k2 false rfl (fun z => nomatch z))
    · exact v_isi h (kit_ty (by decide +kernel)) (k2 true rfl (fun _ R r => v_isi h (kit_ty (by decide +kernel)) r))
    · exact v_isi h (kit_ty (by decide +kernel)) (k2 false rfl (fun z => nomatch z))
    · exact v_isi h (kit_ty (by decide +kernel)) (k2 false rfl (fun z => nomatch z))
    · exact v_isi h (kit_ty (by decide +kernel)) (k2 false rfl (fun z => nomatch z))
theorem thg_notbool {K : PySem.W.Frag} {H : Hp} {n : Int} {Q : VK} (k : Q (.bl false) H) : rIsi K [.int n, .ty "bool"] H Q := v_isi (.base (.int n)) (kit_ty (by decide +kernel)) k
theorem thg_lst {K : PySem.W.Frag} {H : Hp} {v : V} {th : Thing} {Q : VK} (h : Thg K H v th) (k : Q (.bl th.isLst) H) : rIsi K [v, .ty "list"] H Q := by
  cases h with
  | int n => exact v_isi (b := false) (.base (.int n)) (kit_ty (by decide +kernel)) k
  | lst h => exact v_isi (b := true) (sq_ty h) (kit_ty (by decide +kernel)) k
  | @oth v t h ht =>
    simp only [List.mem_cons, List.not_mem_nil, or_false] at ht
    rcases ht with rfl | rfl | rfl | rfl | rfl <;> exact v_isi (b := false) h (kit_ty (by decide +kernel)) k
/-- signs in a thing -/
def sgnV : V → Option Int
  | .int n => if 0 ≤ n ∧ n ≤ 999 then some n else none
  | _ => none
def sgnsV : List V → Option (List Int)
  | [] => some []
  | v :: r => match sgnV v, sgnsV r with
    | some n, some ns => some (n :: ns)
    | _, _ => none
def signsT (lo hi : Int) : Thing → Option (List Int)
  | .lst xs => if lo ≤ xs.length ∧ (xs.length : Int) ≤ hi then sgnsV xs else none
  | _ => none
theorem sgnsV_ok : ∀ {xs : List V} {ns : List Int}, sgnsV xs = some ns → xs = ns.map V.int ∧ ∀ n ∈ ns, 0 ≤ n ∧ n ≤ 999
  | [], ns, h => by
    cases h
    exact ⟨rfl, fun _ h => nomatch h⟩
  | v :: r, ns, h => by
    unfold sgnsV at h
    split at h
    · rename_i n ms h1 h2
      cases h
      obtain ⟨rfl, h3⟩ := sgnsV_ok h2
      unfold sgnV at h1
      split at h1
      · rename_i m
        split at h1
        · rename_i hm
          cases h1
          refine ⟨rfl, fun k hk => ?_⟩
          rcases List.mem_cons.mp hk with rfl | hk
          · exact hm
          · exact h3 k hk
        · cases h1
      · cases h1
    · cases h
theorem sgnsV_ints : ∀ {ns : List Int}, (∀ n ∈ ns, 0 ≤ n ∧ n ≤ 999) → sgnsV (ns.map V.int) = some ns
  | [], _ => rfl
  | n :: r, h => by
    have h1 := h n List.mem_cons_self
    have h2 := sgnsV_ints (ns := r) fun m hm => h m (List.mem_cons_of_mem _ hm)
    show (match sgnV (.int n), sgnsV (r.map V.int) with | some n, some ns => some (n :: ns) | _, _ => none) = _
    rw [h2]
    show (match (if 0 ≤ n ∧ n ≤ 999 then some n else none), some r with | some n, some ns => some (n :: ns) | _, _ => none) = _
    rw [if_pos h1]
theorem signsT_ok {lo hi : Int} {th : Thing} {ns : List Int} (h : signsT lo hi th = some ns) : th = .lst (ns.map V.int) ∧ lo ≤ ns.length ∧ (ns.length : Int) ≤ hi ∧ ∀ n ∈ ns, 0 ≤ n ∧ n ≤ 999 := by
  cases th with
  | lst xs =>
    simp only [signsT] at h
    split at h
    · rename_i hl
      obtain ⟨rfl, h3⟩ := sgnsV_ok h
      rw [List.length_map] at hl
      exact ⟨rfl, hl.1, hl.2, h3⟩
    · cases h
  | int n => cases h
  | oth => cases h
/-- each item is a thing -/
def Items (K : PySem.W.Frag) (H : Hp) : Thing → Prop
  | .lst xs => ∀ x ∈ xs, ∃ th, Thg K H x th ∧ ∃ d, Dp K H x d ∧ d.canLay0 = true ∧ d.depth ≤ 9
  | _ => True
theorem items_ints {K : PySem.W.Frag} {H : Hp} (ns : List Int) : Items K H (.lst (ns.map V.int)) := by
  intro x hx
  obtain ⟨n, _, rfl⟩ := List.mem_map.mp hx
  exact ⟨_, .int n, _, .int n, rfl, by simp [PyData.depth]⟩
/-! ### promises -/
def sp_is_whole (K : PySem.W.Frag) : Sp := fun vs H Q _ => ∃ (v : V) (th : Thing), vs = [v] ∧ Thg K H v th ∧ Q (.bl th.isInt) H
theorem len_is_whole {K : PySem.W.Frag} (vs : List V) (H : Hp) (Q : VK) (E : XK) (h : sp_is_whole K vs H Q E) : vs.length = 1 := by
  obtain ⟨v, th, rfl, _⟩ := h
  rfl
def sp_is_sign (K : PySem.W.Frag) : Sp := fun vs H Q _ => ∃ (v : V) (th : Thing), vs = [v] ∧ Thg K H v th ∧ Q (.bl (sgnV v).isSome) H
theorem len_is_sign {K : PySem.W.Frag} (vs : List V) (H : Hp) (Q : VK) (E : XK) (h : sp_is_sign K vs H Q E) : vs.length = 1 := by
  obtain ⟨v, th, rfl, _⟩ := h
  rfl
def sp_are_signs (K : PySem.W.Frag) : Sp := fun vs H Q _ => ∃ (v : V) (th : Thing) (lo hi : Int), vs = [v, .int lo, .int hi] ∧ Thg K H v th ∧ Items K H th ∧ Q (.bl (signsT lo hi th).isSome) H
theorem len_are_signs {K : PySem.W.Frag} (vs : List V) (H : Hp) (Q : VK) (E : XK) (h : sp_are_signs K vs H Q E) : vs.length = 3 := by
  obtain ⟨v, th, lo, hi, rfl, _⟩ := h
  rfl
abbrev t_is_whole (K : PySem.W.Frag) : TS := (tRet (tAndV (tCB (rIsi K) (tCons (tVar 0) (tCons (tC (.ty "int")) tNil))) (tNotV (tCB (rIsi K) (tCons (tVar 0) (tCons (tC (.ty "bool")) tNil))))))
abbrev t_is_sign (K : PySem.W.Frag) : TS := (tRet (tAndV (tCall (sp_is_whole K) [] E0 (tCons (tVar 0) tNil)) (tChain uLe uLe (tC (.int 0)) (tVar 0) (tC (.int 999)))))
abbrev t_are_signs_4 (K : PySem.W.Frag) : TS := (tIfS (tNot (tB (tCall (sp_is_sign K) [] E0 (tCons (tVar 3) tNil)))) (tRet (tC (.bl false))) tNext)
abbrev t_are_signs_3 (K : PySem.W.Frag) : TS := (tSeq (tFor (iList K (tVar 0)) (gName 3) (t_are_signs_4 K))
  (tRet (tC (.bl true))))
abbrev t_are_signs_1 (K : PySem.W.Frag) : TS := (tSeq (tIfS (tOr (tNot (tB (tCB (rIsi K) (tCons (tVar 0) (tCons (tC (.ty "list")) tNil))))) (tNot (tTest (tChain uLe uLe (tVar 1) (tCB (uLen K) (tCons (tVar 0) tNil)) (tVar 2))))) (tRet (tC (.bl false))) tNext)
  (t_are_signs_3 K))
abbrev t_are_signs (K : PySem.W.Frag) : TS := (t_are_signs_1 K)
theorem pure_is_whole {K : PySem.W.Frag} (vs : List V) (H : Hp) (Q : VK) (E : XK) (h : sp_is_whole K vs H Q E) : t_is_whole K { nx := fun _ H' => Q .non H', rt := Q } (L2.start ["thing"] vs) H := by
  obtain ⟨v, th, rfl, ht, k⟩ := h
  show t_is_whole K _ [some v] H
  walk_at "go"
  refine thg_int ht (fun e _ => ?_) (fun b e hb => ?_)
  · walk_at "go"
    cases ht with
    | int n =>
      refine thg_notbool ?_
      walk_at "go"
      exact k
    | lst h => cases e
    | oth h ht => cases e
  · rw [e] at k
    cases b with
    | false =>
      walk_at "go"
      exact k
    | true =>
      walk_at "go"
      refine hb rfl _ ?_
      walk_at "go"
      exact k
theorem pure_is_sign {K : PySem.W.Frag} (vs : List V) (H : Hp) (Q : VK) (E : XK) (h : sp_is_sign K vs H Q E) : t_is_sign K { nx := fun _ H' => Q .non H', rt := Q } (L2.start ["thing"] vs) H := by
  obtain ⟨v, th, rfl, ht, k⟩ := h
  show t_is_sign K _ [some v] H
  walk_at "go"
  refine ⟨v, th, rfl, ht, ?_⟩
  cases ht with
  | int n =>
    dsimp only [Thing.isInt]
    walk_at "go"
    refine v_ifD (fun h => ?_) (fun h => ?_)
    · walk_at "go"
      have e : (sgnV (.int n)).isSome = decide (n ≤ 999) := by
        unfold sgnV
        dsimp only
        by_cases h2 : n ≤ 999
        · rw [if_pos ⟨h, h2⟩, decide_eq_true h2]
          rfl
        · rw [if_neg (fun z => h2 z.2), decide_eq_false h2]
          rfl
      rw [e] at k
      exact k
    · walk_at "go"
      have e : sgnV (.int n) = none := if_neg fun z => h z.1
      rw [e] at k
      exact k
  | lst h =>
    dsimp only [Thing.isInt]
    walk_at "go"
    exact k
  | @oth v t h ht =>
    dsimp only [Thing.isInt]
    walk_at "go"
    have e : sgnV v = none := by
      cases v with
      | int n =>
        cases h with
        | base b =>
          cases b
          simp at ht
      | _ => rfl
    rw [e] at k
    exact k
theorem sgnsV_append : ∀ (xs ys : List V), sgnsV (xs ++ ys) = match sgnsV xs, sgnsV ys with | some a, some b => some (a ++ b) | _, _ => none
  | [], ys => by
    show sgnsV ys = match some [], sgnsV ys with | some a, some b => some (a ++ b) | _, _ => none
    cases sgnsV ys <;> rfl
  | x :: xs, ys => by
    show (match sgnV x, sgnsV (xs ++ ys) with | some n, some ns => some (n :: ns) | _, _ => none) = match (match sgnV x, sgnsV xs with | some n, some ns => some (n :: ns) | _, _ => none), sgnsV ys with | some a, some b => some (a ++ b) | _, _ => none
    rw [sgnsV_append xs ys]
    cases sgnV x <;> cases sgnsV xs <;> cases sgnsV ys <;> rfl
theorem pure_are_signs {K : PySem.W.Frag} (vs : List V) (H : Hp) (Q : VK) (E : XK) (h : sp_are_signs K vs H Q E) : t_are_signs K { nx := fun _ H' => Q .non H', rt := Q } (L2.start ["thing", "fewest", "most", "sign"] vs) H := by
  obtain ⟨v, th, lo, hi, rfl, ht, hit, k⟩ := h
  show t_are_signs K _ [some v, some (.int lo), some (.int hi), none] H
  walk_at "go"
  refine thg_lst ht ?_
  cases ht with
  | int n =>
    dsimp only [Thing.isLst]
    walk_at "go"
    exact k
  | oth h ht =>
    dsimp only [Thing.isLst]
    walk_at "go"
    exact k
  | @lst a xs h =>
    dsimp only [Thing.isLst]
    walk_at "go"
    refine v_ifD (fun h1 => ?_) (fun h1 => ?_)
    · walk_at "go"
      by_cases h2 : (xs.length : Int) ≤ hi
      · rw [decide_eq_true h2]
        walk_at "go"
        have es : signsT lo hi (.lst xs) = sgnsV xs := if_pos ⟨h1, h2⟩
        rw [es] at k
        refine v_itL h ?_
        refine for_W walk_list (fun i σ H' => H' = H ∧ ∃ x, σ = [some (V.ref a), some (.int lo), some (.int hi), x] ∧ (sgnsV (xs.take i)).isSome = true) ⟨rfl, none, rfl, rfl⟩ (fun i σ H' _ ⟨e, _⟩ => e ▸ h) ?_ ?_
        · rintro i x σ H1 H2 hi2 ⟨rfl, x2, rfl, hs⟩ ⟨rfl, hx⟩
          walk_at "go"
          obtain ⟨th, hth, _⟩ := hit x (List.mem_of_getElem? hx)
          refine ⟨x, th, rfl, hth, ?_⟩
          walk_at "go"
          cases e : sgnV x with
          | none =>
            walk_at "go"
            have e2 : sgnsV xs = none := by
              rw [← List.take_append_drop (i + 1) xs, take_more hx, List.append_assoc, sgnsV_append, sgnsV_append]
              have e3 : sgnsV [x] = none := by
                show (match sgnV x, sgnsV [] with | some n, some ns => some (n :: ns) | _, _ => none) = none
                rw [e]
              rw [e3]
              cases sgnsV (xs.take i) <;> rfl
            rw [e2] at k
            exact k
          | some n =>
            walk_at "go"
            refine ⟨rfl, some x, rfl, ?_⟩
            rw [take_more hx, sgnsV_append]
            have e3 : sgnsV [x] = some [n] := by
              show (match sgnV x, sgnsV [] with | some n, some ns => some (n :: ns) | _, _ => none) = some [n]
              rw [e]
              rfl
            rw [e3]
            cases e4 : sgnsV (xs.take i) with
            | none =>
              rw [e4] at hs
              cases hs
            | some ms => rfl
        · rintro σ H1 ⟨rfl, x2, rfl, hs⟩
          walk_at "go"
          rw [List.take_length] at hs
          rw [hs] at k
          exact k
      · rw [decide_eq_false h2]
        walk_at "go"
        have es : signsT lo hi (.lst xs) = none := if_neg fun z => h2 z.2
        rw [es] at k
        exact k
    · walk_at "go"
      have es : signsT lo hi (.lst xs) = none := if_neg fun z => h1 z.1
      rw [es] at k
      exact k
abbrev bagO (x y z : Int) (cl : Addr) : HO := .lst [.int x, .int y, .int z, .ref cl]
structure BagOk (x y z : Int) (ns : List Int) : Prop where
  x0 : 0 ≤ x
  y0 : 0 ≤ y
  y1 : y < 2147483647
  z0 : 0 ≤ z
  nn : ∀ n ∈ ns, (0 : Int) ≤ n
def bagR (bag : Addr) : Res := exi fun (b : Int × Int × Int × Addr × List Int) => prp (BagOk b.1 b.2.1 b.2.2.1 b.2.2.2.2) (sp2 (pt bag (bagO b.1 b.2.1 b.2.2.1 b.2.2.2.1)) (pt b.2.2.2.1 (.lst (b.2.2.2.2.map V.int))))
theorem bag_open {bag : Addr} {Rs : List Res} {H : Hp} (S : M (bagR bag :: Rs) H) : ∃ x y z cl ns, BagOk x y z ns ∧ M (pt bag (bagO x y z cl) :: pt cl (.lst (ns.map V.int)) :: Rs) H := by
  obtain ⟨⟨x, y, z, cl, ns⟩, S⟩ := S.ex
  obtain ⟨ok, S⟩ := S.pr
  exact ⟨x, y, z, cl, ns, ok, S.sp⟩
theorem bag_close {bag cl : Addr} {x y z : Int} {ns : List Int} {Rs : List Res} {H : Hp} (ok : BagOk x y z ns) (S : M (pt bag (bagO x y z cl) :: pt cl (.lst (ns.map V.int)) :: Rs) H) : M (bagR bag :: Rs) H :=
  M.ex' (T := fun (b : Int × Int × Int × Addr × List Int) => prp (BagOk b.1 b.2.1 b.2.2.1 b.2.2.2.2) (sp2 (pt bag (bagO b.1 b.2.1 b.2.2.1 b.2.2.2.1)) (pt b.2.2.2.1 (.lst (b.2.2.2.2.map V.int))))) (x, y, z, cl, ns) (M.pr' ok S.sp')
def sp_l_take (K : PySem.W.Frag) : Sp := fun vs H Q _ => ∃ (Rs : List Res) (bag : Addr) (many : Int), vs = [.ref bag, .int many] ∧ M (bagR bag :: Rs) H ∧ 0 < many ∧ many < 2 ^ 62 ∧
  ∀ v H', 0 ≤ v → v < many → M (bagR bag :: Rs) H' → Q (.int v) H'
abbrev t_l_take_6 (K : PySem.W.Frag) : TS := (tSeq (tIfS (tTest (tOp uGe (tVar 4) (tC (.int 1000000000000000000)))) (tAsg (tVar 4) (gSub (tVar 0) (tC (.int 0)) uSet)) tNext)
  (tAsg (tOp uMod (tOp (uAdd K) (tOp (uAdd K) (tOp uMul (tOp (uIx K) (tVar 0) (tC (.int 1))) (tC (.int 48271))) (tOp uMod (tVar 4) (tC (.int 2147483647)))) (tOp uMul (tC (.int 7919)) (tOp (uIx K) (tVar 0) (tC (.int 2))))) (tC (.int 2147483647))) (gSub (tVar 0) (tC (.int 1)) uSet)))
abbrev t_l_take_5 (K : PySem.W.Frag) : TS := (tSeq (tAugS (tVar 0) (tC (.int 2)) (tC (.int 1)) (gIx K) iAdd uSet)
  (t_l_take_6 K))
abbrev t_l_take_3 (K : PySem.W.Frag) : TS := (tSeq (tIfS (tTest (tOp uLt (tOp (uIx K) (tVar 0) (tC (.int 2))) (tCB (uLen K) (tCons (tOp (uIx K) (tVar 0) (tC (.int 3))) tNil)))) (tAsg (tOp (uIx K) (tOp (uIx K) (tVar 0) (tC (.int 3))) (tOp (uIx K) (tVar 0) (tC (.int 2)))) (gName 4)) tNext)
  (t_l_take_5 K))
abbrev t_l_take_2 (K : PySem.W.Frag) : TS := (tSeq (tAsg (tC (.int 0)) (gName 4))
  (t_l_take_3 K))
abbrev t_l_take_11 (K : PySem.W.Frag) : TS := (tSeq (tAsg (tOp uDiv (tOp (uIx K) (tVar 0) (tC (.int 0))) (tVar 1)) (gSub (tVar 0) (tC (.int 0)) uSet))
  (tRet (tVar 5)))
abbrev t_l_take_10 (K : PySem.W.Frag) : TS := (tSeq (tAsg (tOp uMod (tOp (uIx K) (tVar 0) (tC (.int 0))) (tVar 1)) (gName 5))
  (t_l_take_11 K))
abbrev t_l_take_15 (K : PySem.W.Frag) : TS := (tSeq (tIfS (tTest (tOp uGt (tVar 1) (tC (.int 1000000)))) (tRet (tOp uMod (tOp (uAdd K) (tOp uMul (tVar 3) (tC (.int 1000000007))) (tVar 2)) (tVar 1))) tNext)
  (tRet (tOp uMod (tOp uDiv (tVar 3) (tC (.int 7))) (tVar 1))))
abbrev t_l_take_14 (K : PySem.W.Frag) : TS := (tSeq (tAsg (tOp uMod (tOp uMul (tOp uMod (tOp uMul (tVar 2) (tVar 2)) (tC (.int 998244353))) (tC (.int 30011))) (tC (.int 998244353))) (gName 3))
  (t_l_take_15 K))
abbrev t_l_take_13 (K : PySem.W.Frag) : TS := (tSeq (tAsg (tOp uMod (tOp uMul (tOp (uAdd K) (tOp (uIx K) (tVar 0) (tC (.int 1))) (tC (.int 1))) (tC (.int 39373))) (tC (.int 1000000007))) (gName 2))
  (t_l_take_14 K))
abbrev t_l_take_9 (K : PySem.W.Frag) : TS := (tSeq (tIfS (tTest (tOp uGt (tOp (uIx K) (tVar 0) (tC (.int 0))) (tC (.int 0)))) (t_l_take_10 K) tNext)
  (t_l_take_13 K))
abbrev t_l_take_1 (K : PySem.W.Frag) : TS := (tSeq (tIfS (tTest (tOp (uEq K) (tOp (uIx K) (tVar 0) (tC (.int 0))) (tC (.int 0)))) (t_l_take_2 K) tNext)
  (t_l_take_9 K))
abbrev t_l_take (K : PySem.W.Frag) : TS := (t_l_take_1 K)
theorem take_tail {K : PySem.W.Frag} {Q : VK} {Rs : List Res} {bag cl : Addr} {many x y z : Int} {ns : List Int} {c : Option V} {H : Hp} (m0 : 0 < many) (m1 : many < 2 ^ 62) (ok : BagOk x y z ns)
    (k : ∀ v H', 0 ≤ v → v < many → M (bagR bag :: Rs) H' → Q (.int v) H') (S : M (pt bag (bagO x y z cl) :: pt cl (.lst (ns.map V.int)) :: Rs) H) :
    t_l_take_9 K { nx := fun _ H' => Q .non H', rt := Q } [some (V.ref bag), some (V.int many), none, none, c, none] H := by
  have x0 := ok.x0
  have y0 := ok.y0
  have y1 := ok.y1
  walk_at "go"
  refine v_ifD (fun h => ?_) (fun h => ?_)
  · walk_at "go"
    refine v_set S 0 rfl rfl fun H' S' => ?_
    have S2 : M (pt bag (bagO (x / many) y z cl) :: pt cl (.lst (ns.map V.int)) :: Rs) H' := S'
    walk_at "go"
    exact k _ _ (Int.emod_nonneg _ (by omega)) (Int.emod_lt_of_pos _ m0) (bag_close ⟨Int.ediv_nonneg x0 (Int.le_of_lt m0), y0, y1, ok.z0, ok.nn⟩ S2)
  · walk_at "go"
    have f0 := Int.emod_nonneg ((y + 1) * 39373) (show (1000000007 : Int) ≠ 0 by decide)
    have f1 := Int.emod_lt_of_pos ((y + 1) * 39373) (show (0 : Int) < 1000000007 by decide)
    walk_at "go"
    have g0 := Int.emod_nonneg ((y + 1) * 39373 % 1000000007 * ((y + 1) * 39373 % 1000000007) % 998244353 * 30011) (show (998244353 : Int) ≠ 0 by decide)
    have g1 := Int.emod_lt_of_pos ((y + 1) * 39373 % 1000000007 * ((y + 1) * 39373 % 1000000007) % 998244353 * 30011) (show (0 : Int) < 998244353 by decide)
    refine v_ifD (fun h => ?_) (fun h => ?_)
    · walk_at "go"
      exact k _ _ (Int.emod_nonneg _ (by omega)) (Int.emod_lt_of_pos _ m0) (bag_close ok S)
    · walk_at "go"
      exact k _ _ (Int.emod_nonneg _ (by omega)) (Int.emod_lt_of_pos _ m0) (bag_close ok S)
theorem take_mid {K : PySem.W.Frag} {Q : VK} {Rs : List Res} {bag cl : Addr} {many y z c : Int} {ns : List Int} {H : Hp} (m0 : 0 < many) (m1 : many < 2 ^ 62) (ok : BagOk 0 y z ns) (c0 : 0 ≤ c)
    (k : ∀ v H', 0 ≤ v → v < many → M (bagR bag :: Rs) H' → Q (.int v) H') (S : M (pt bag (bagO 0 y z cl) :: pt cl (.lst (ns.map V.int)) :: Rs) H) :
    t_l_take_5 K { nx := t_l_take_9 K { nx := fun _ H' => Q .non H', rt := Q }, rt := Q } [some (V.ref bag), some (V.int many), none, none, some (.int c), none] H := by
  have y0 := ok.y0
  have y1 := ok.y1
  have z0 := ok.z0
  have fin : ∀ {x : Int} {H' : Hp}, 0 ≤ x → M (pt bag (bagO x y (z + 1) cl) :: pt cl (.lst (ns.map V.int)) :: Rs) H' →
      tAsg (tOp uMod (tOp (uAdd K) (tOp (uAdd K) (tOp uMul (tOp (uIx K) (tVar 0) (tC (.int 1))) (tC (.int 48271))) (tOp uMod (tVar 4) (tC (.int 2147483647)))) (tOp uMul (tC (.int 7919)) (tOp (uIx K) (tVar 0) (tC (.int 2))))) (tC (.int 2147483647))) (gSub (tVar 0) (tC (.int 1)) uSet)
        { nx := t_l_take_9 K { nx := fun _ H' => Q .non H', rt := Q }, rt := Q } [some (V.ref bag), some (V.int many), none, none, some (.int c), none] H' := by
    intro x H' x0 S
    walk_at "go"
    refine v_set S 0 rfl rfl fun H2 S' => ?_
    have S2 : M (pt bag (bagO x ((y * 48271 + c % 2147483647 + 7919 * (z + 1)) % 2147483647) (z + 1) cl) :: pt cl (.lst (ns.map V.int)) :: Rs) H2 := S'
    walk_at "nx"
    exact take_tail m0 m1 ⟨x0, Int.emod_nonneg _ (by decide), Int.emod_lt_of_pos _ (by decide), by omega, ok.nn⟩ k S2
  walk_at "go"
  refine v_set S 0 rfl rfl fun H' S' => ?_
  have S2 : M (pt bag (bagO 0 y (z + 1) cl) :: pt cl (.lst (ns.map V.int)) :: Rs) H' := S'
  walk_at "go"
  refine v_ifD (fun h => ?_) (fun h => ?_)
  · walk_at "go"
    refine v_set S2 0 rfl rfl fun H2 S' => ?_
    have S3 : M (pt bag (bagO c y (z + 1) cl) :: pt cl (.lst (ns.map V.int)) :: Rs) H2 := S'
    exact fin c0 S3
  · walk_at "st"
    exact fin (Int.le_refl 0) S2
theorem len_l_take {K : PySem.W.Frag} (vs : List V) (H : Hp) (Q : VK) (E : XK) (h : sp_l_take K vs H Q E) : vs.length = 2 := by
  obtain ⟨Rs, bag, many, rfl, _⟩ := h
  rfl
theorem pure_l_take {K : PySem.W.Frag} (vs : List V) (H : Hp) (Q : VK) (E : XK) (h : sp_l_take K vs H Q E) : t_l_take K { nx := fun _ H' => Q .non H', rt := Q } (start ["_law_bag_here", "_law_many", "_law_first", "_law_second", "_law_cell", "_law_value"] vs) H := by
  obtain ⟨Rs, bag, many, rfl, S, m0, m1, k⟩ := h
  obtain ⟨x, y, z, cl, ns, ok, S⟩ := bag_open S
  show t_l_take K _ [some (V.ref bag), some (V.int many), none, none, none, none] H
  walk_at "go"
  refine v_ifD (fun h => ?_) (fun h => ?_)
  · subst h
    walk_at "go"
    refine v_ifD (fun h => ?_) (fun h => ?_)
    · rw [List.length_map] at h
      walk_at "go"
      refine v_ixL (SqL.of (S.got 1 rfl)) (atI_ints ok.z0 h) ?_
      walk_at "nx"
      refine take_mid m0 m1 ok ?_ k S
      rw [List.getD_eq_getElem?_getD]
      cases e : ns[z.toNat]? with
      | none => exact Int.le_refl 0
      | some n => exact ok.nn n (List.mem_of_getElem? e)
    · walk_at "st"
      exact take_mid m0 m1 ok (Int.le_refl 0) k S
  · walk_at "st"
    exact take_tail m0 m1 ok k S
def sp_l_bag (K : PySem.W.Frag) : Sp := fun vs H Q _ => ∃ (Rs : List Res) (a : Addr) (ns : List Int), vs = [.ref a] ∧ M Rs H ∧ Ent Rs (fun H => SqL K H a (ns.map V.int)) ∧ ns.length ≤ 63 ∧ ∀ bag H', M (bagR bag :: Rs) H' → Q (.ref bag) H'
theorem len_l_bag {K : PySem.W.Frag} (vs : List V) (H : Hp) (Q : VK) (E : XK) (h : sp_l_bag K vs H Q E) : vs.length = 1 := by
  obtain ⟨Rs, a, ns, rfl, _⟩ := h
  rfl
abbrev t_l_bag (K : PySem.W.Frag) : TS := (tRet (tLst (tCons (tC (.int 0)) (tCons (tC (.int 1234567891)) (tCons (tC (.int 0)) (tCons (tLc (iList K (tSl (uSl K) (tVar 0) tNoPart (tPart (tC (.int 63))))) (gName 1) tYes (tCB rAbs (tCons (tVar 1) tNil)) [1]) tNil))))))
theorem pure_l_bag {K : PySem.W.Frag} (vs : List V) (H : Hp) (Q : VK) (E : XK) (h : sp_l_bag K vs H Q E) : t_l_bag K { nx := fun _ H' => Q .non H', rt := Q } (start ["_law_script", "_law_cell"] vs) H := by
  obtain ⟨Rs, a, ns, rfl, S, hS, hl, k⟩ := h
  show t_l_bag K _ [some (V.ref a), none] H
  walk_at "go"
  refine v_slL S (hS H S) fun q H1 S1 => ?_
  rw [show cutV (ns.map V.int) none (some 63) = (ns.map V.int).take 63 from cut_to _ 63, ← List.map_take] at S1
  refine v_itL (SqL.of (S1.got 0 rfl)) ?_
  refine lc_W walk_list S1 (fun i acc => ∃ ms : List Int, acc = ms.map V.int ∧ ms.length ≤ i ∧ ∀ n ∈ ms, 0 ≤ n) ⟨[], rfl, Nat.le_refl _, (fun _ h => nomatch h)⟩ (fun H S => SqL.of (S.got 0 rfl)) ?_ ?_
  · intro i x acc E H H' hi hp S y
    obtain ⟨rfl, hx⟩ := y
    obtain ⟨n, _, rfl⟩ := ints_get hx
    obtain ⟨ms, rfl, hm, hn⟩ := hp
    walk_at "go"
    have hz : i < 63 := by
      rw [List.length_map, List.length_take] at hi
      omega
    refine lc_next S 0 rfl (by rw [List.length_map]; omega) fun H' S' => ?_
    refine ⟨_, ⟨ms ++ [if n < 0 then -n else n], by simp, by simp; omega, fun m h => ?_⟩, S'⟩
    rcases List.mem_append.mp h with h | h
    · exact hn m h
    · cases List.mem_singleton.mp h
      split <;> omega
  · rintro E acc H ⟨ms, rfl, _, hn⟩ S
    walk_at "go"
    refine v_lst S (by simp) fun p H' S' => ?_
    walk_at "go"
    have S2 : M (pt p (bagO 0 1234567891 0 E) :: pt E (.lst (ms.map V.int)) :: Rs) H' := (S'.at 2 rfl).tl
    exact k p H' (bag_close ⟨by decide, by decide, by decide, by decide, hn⟩ S2)
/-! ### data -/
structure Shw (d : PyData) : Prop where
  sh : d.showable = true
  cl : d.canLay0 = true
  dp : d.depth ≤ 60
  sz : d.shown.length ≤ sizeLine
theorem Shw.shaped {d : PyData} (h : Shw d) : SeqAt.shaped d = true := by
  unfold SeqAt.shaped
  rw [h.cl, decide_eq_true (Nat.le_trans h.dp (by decide))]
  rfl
theorem log_lt {n : Int} (h : n.natAbs < 2 ^ 1000) : n.natAbs.log2 < 1920 := by
  rcases Nat.eq_zero_or_pos n.natAbs with e | e
  · rw [e]
    decide
  · have h2 := (Nat.log2_lt (by omega)).mpr h
    omega
theorem Shw.int {n : Int} (h : n.natAbs < 2 ^ 1000) : Shw (.int n) := by
  have l := log_lt h
  refine ⟨by simpa [PyData.showable] using l, rfl, by simp [PyData.depth], ?_⟩
  simp only [PyData.shown]
  exact int_text_fits l
theorem dpAll_ints {K : PySem.W.Frag} {H : Hp} : ∀ ns : List Int, DpAll K H (ns.map V.int) (ns.map PyData.int)
  | [] => .nil
  | n :: r => .cons (.int n) (dpAll_ints r)
theorem dp_ints {K : PySem.W.Frag} {H : Hp} {a : Addr} {ns : List Int} (h : SqL K H a (ns.map V.int)) : Dp K H (.ref a) (.list (ns.map PyData.int)) := .lst h (dpAll_ints ns)
theorem canLayAll_ints : ∀ ns : List Int, PyData.canLayAll0 (ns.map PyData.int) = true
  | [] => by simp [PyData.canLayAll0]
  | n :: r => by simp [PyData.canLayAll0, PyData.canLay0, canLayAll_ints r]
theorem depthAll_ints : ∀ ns : List Int, PyData.depthAll (ns.map PyData.int) ≤ 1
  | [] => by simp [PyData.depthAll]
  | n :: r => by
    have := depthAll_ints r
    simp [PyData.depthAll, PyData.depth]
    omega
theorem shaped_ints (ns : List Int) : SeqAt.shaped (.list (ns.map PyData.int)) = true := by
  unfold SeqAt.shaped
  have := depthAll_ints ns
  simp [PyData.canLay0, canLayAll_ints, PyData.depth]
  omega
theorem eqvAll_ints : ∀ ns ms : List Int, PyData.eqvAll (ns.map PyData.int) (ms.map PyData.int) = decide (ns = ms)
  | [], [] => rfl
  | [], _ :: _ => rfl
  | _ :: _, [] => rfl
  | n :: r, m :: t => by
    show (PyData.eqv (.int n) (.int m) && PyData.eqvAll (r.map PyData.int) (t.map PyData.int)) = _
    rw [eqvAll_ints r t]
    by_cases h : n = m
    · subst h
      simp [PyData.eqv]
    · have : ¬ (n :: r = m :: t) := fun z => h (List.cons.inj z).1
      simp [PyData.eqv, h]
theorem eqv_ints (ns ms : List Int) : PyData.eqv (.list (ns.map PyData.int)) (.list (ms.map PyData.int)) = decide (ns = ms) := eqvAll_ints ns ms
/-- a list of so many signs -/
structure Signs (lo hi : Nat) (ns : List Int) : Prop where
  lo : lo ≤ ns.length
  hi : ns.length ≤ hi
  sg : ∀ n ∈ ns, 0 ≤ n ∧ n ≤ 999
/-- a draw -/
theorem u_take {K : PySem.W.Frag} {Rs : List Res} {H : Hp} {bag : Addr} {many : Int} {Q : VK} {E : XK} (S : M (bagR bag :: Rs) H) (h : 0 < many ∧ many < 2 ^ 62) (k : ∀ v H', 0 ≤ v → v < many → M (bagR bag :: Rs) H' → Q (.int v) H') :
    sp_l_take K ([.ref bag, .int many] ++ []) H Q E := ⟨Rs, bag, many, rfl, S, h.1, h.2, k⟩
def sp_l_signs (K : PySem.W.Frag) : Sp := fun vs H Q _ => ∃ (Rs : List Res) (bag : Addr), vs = [.ref bag] ∧ M (bagR bag :: Rs) H ∧
  ∀ p ns H', Signs 1 16 ns → M (bagR bag :: pt p (.lst (ns.map V.int)) :: Rs) H' → Q (.ref p) H'
def sp_l_alike (K : PySem.W.Frag) : Sp := fun vs H Q _ => ∃ (x y : V) (d : PyData), vs = [x, y] ∧ Dp K H x d ∧ Dp K H y d ∧ Shw d ∧ Q (.bl true) H
theorem len_l_alike {K : PySem.W.Frag} (vs : List V) (H : Hp) (Q : VK) (E : XK) (h : sp_l_alike K vs H Q E) : vs.length = 2 := by
  obtain ⟨x, y, d, rfl, _⟩ := h
  rfl
theorem u_alike {K : PySem.W.Frag} {H : Hp} {x y : V} {d : PyData} {Q : VK} {E : XK} (h1 : Dp K H x d) (h2 : Dp K H y d) (sw : Shw d) (k : Q (.bl true) H) : sp_l_alike K ([x, y] ++ []) H Q E := ⟨x, y, d, rfl, h1, h2, sw, k⟩
abbrev t_l_alike (K : PySem.W.Frag) : TS := (tRet (tAndV (tOp (uEq K) (tVar 0) (tVar 1)) (tOp (uEq K) (tCB (rRepr K) (tCons (tVar 0) tNil)) (tCB (rRepr K) (tCons (tVar 1) tNil)))))
theorem pure_l_alike {K : PySem.W.Frag} (vs : List V) (H : Hp) (Q : VK) (E : XK) (h : sp_l_alike K vs H Q E) : t_l_alike K { nx := fun _ H' => Q .non H', rt := Q } (L2.start ["_law_found", "_law_due"] vs) H := by
  obtain ⟨x, y, d, rfl, h1, h2, sw, k⟩ := h
  show t_l_alike K _ [some x, some y] H
  walk_at "go"
  refine v_eqD h1 h2 sw.shaped sw.shaped ?_
  rw [SeqAt.eqv_refl d sw.cl]
  walk_at "go"
  refine ⟨x, d, rfl, h1, sw.sh, sw.cl, sw.dp, sw.sz, ?_⟩
  walk_at "go"
  refine ⟨y, d, rfl, h2, sw.sh, sw.cl, sw.dp, sw.sz, ?_⟩
  walk_at "go"
  rw [decide_eq_true rfl]
  exact k
/-! ### lists that stand for ever, owned lists -/
def fzs (ls : List (Addr × List Int)) : Res := ⟨fun F l => l = [] ∧ ∀ q ∈ ls, F q.1 = some (.lst (q.2.map V.int)), fun _ _ _ e h => ⟨h.1, fun q hq => e _ _ (h.2 q hq)⟩⟩
theorem M.fzs0 {Rs : List Res} {H : Hp} (h : M Rs H) : M (fzs [] :: Rs) H := by
  obtain ⟨F, L, a, m⟩ := h
  exact ⟨F, L, ⟨[], L, rfl, ⟨rfl, (fun _ h => nomatch h)⟩, a⟩, m⟩
theorem M.fzs1 {Rs : List Res} {H : Hp} {p : Addr} {ns : List Int} {ls : List (Addr × List Int)} (h : M (pt p (.lst (ns.map V.int)) :: fzs ls :: Rs) H) : M (fzs (ls ++ [(p, ns)]) :: Rs) H := by
  obtain ⟨F, L, ⟨l1, l2, rfl, ⟨rfl, e⟩, l3, l4, rfl, ⟨rfl, f⟩, b⟩, m⟩ := h.fix
  refine ⟨F, l4, ⟨[], l4, rfl, ⟨rfl, fun q hq => ?_⟩, b⟩, m⟩
  rcases List.mem_append.mp hq with hq | hq
  · exact f q hq
  · cases List.mem_singleton.mp hq
    exact e
theorem M.gotS {Rs : List Res} {H : Hp} {ls : List (Addr × List Int)} (h : M Rs H) (i : Nat) (e : Rs[i]? = some (fzs ls)) {q : Addr × List Int} (hq : q ∈ ls) : H q.1 = some (.lst (q.2.map V.int)) := by
  obtain ⟨F, L, ⟨l1, l2, rfl, ⟨_, f⟩, b⟩, m⟩ := h.at i e
  exact m.ex _ _ (f q hq)
def rfs (ls : List (Addr × List Int)) : List V := ls.map fun q => V.ref q.1
theorem rfs_len (ls : List (Addr × List Int)) : (rfs ls).length = ls.length := by simp [rfs]
theorem rfs_snoc (ls : List (Addr × List Int)) (p : Addr) (ns : List Int) : rfs (ls ++ [(p, ns)]) = rfs ls ++ [V.ref p] := by simp [rfs]
theorem rfs_get {ls : List (Addr × List Int)} {i : Nat} {x : V} (h : (rfs ls)[i]? = some x) : ∃ q, ls[i]? = some q ∧ x = .ref q.1 := by
  unfold rfs at h
  rw [List.getElem?_map] at h
  cases e : ls[i]? with
  | none =>
    rw [e] at h
    cases h
  | some q =>
    rw [e] at h
    exact ⟨q, rfl, (Option.some.inj h).symm⟩
theorem atI_rfs {ls : List (Addr × List Int)} {i : Int} (h0 : 0 ≤ i) (h1 : i < ls.length) : ∃ q, ls[i.toNat]? = some q ∧ q ∈ ls ∧ atI (rfs ls) i = some (.ref q.1) := by
  have hl : i.toNat < ls.length := by omega
  refine ⟨ls[i.toNat], List.getElem?_eq_getElem hl, List.getElem_mem hl, atI_int h0 ?_⟩
  unfold rfs
  rw [List.getElem?_map, List.getElem?_eq_getElem hl]
  rfl
/-- owned lists of ints -/
def cls (ls : List (Addr × List Int)) : List Cell := ls.map fun q => (q.1, HO.lst (q.2.map V.int))
def pts (ls : List (Addr × List Int)) : Res := ⟨fun _ l => l = cls ls, fun _ _ _ _ h => h⟩
theorem M.pts0 {Rs : List Res} {H : Hp} (h : M Rs H) : M (pts [] :: Rs) H := by
  obtain ⟨F, L, a, m⟩ := h
  exact ⟨F, L, ⟨[], L, rfl, rfl, a⟩, m⟩
/-- one of them by itself -/
theorem M.ptsO {Rs : List Res} {H : Hp} {p : Addr} {ns : List Int} {l1 l2 : List (Addr × List Int)} (h : M (pts (l1 ++ (p, ns) :: l2) :: Rs) H) : M (pt p (.lst (ns.map V.int)) :: pts (l1 ++ l2) :: Rs) H := by
  obtain ⟨F, L, ⟨a1, a2, rfl, rfl, b⟩, m⟩ := h
  have e : (cls (l1 ++ (p, ns) :: l2)).Perm ((p, HO.lst (ns.map V.int)) :: cls (l1 ++ l2)) := by
    unfold cls
    rw [List.map_append, List.map_cons, List.map_append]
    exact List.perm_middle
  exact ⟨F, _, ⟨[(p, .lst (ns.map V.int))], cls (l1 ++ l2) ++ a2, rfl, rfl, cls (l1 ++ l2), a2, rfl, rfl, b⟩, m.perm (e.append_right a2)⟩
theorem M.ptsC {Rs : List Res} {H : Hp} {p : Addr} {ns : List Int} {l1 l2 : List (Addr × List Int)} (h : M (pt p (.lst (ns.map V.int)) :: pts (l1 ++ l2) :: Rs) H) : M (pts (l1 ++ (p, ns) :: l2) :: Rs) H := by
  obtain ⟨F, L, ⟨a1, a2, rfl, rfl, a3, a4, rfl, rfl, b⟩, m⟩ := h
  have e : (cls (l1 ++ (p, ns) :: l2)).Perm ((p, HO.lst (ns.map V.int)) :: cls (l1 ++ l2)) := by
    unfold cls
    rw [List.map_append, List.map_cons, List.map_append]
    exact List.perm_middle
  exact ⟨F, _, ⟨cls (l1 ++ (p, ns) :: l2), a4, rfl, rfl, b⟩, m.perm (e.append_right a4).symm⟩
theorem M.ptsS {Rs : List Res} {H : Hp} {p : Addr} {ns : List Int} {ls : List (Addr × List Int)} (h : M (pt p (.lst (ns.map V.int)) :: pts ls :: Rs) H) : M (pts (ls ++ [(p, ns)]) :: Rs) H :=
  M.ptsC (l1 := ls) (l2 := []) (by rw [List.append_nil]; exact h)
theorem M.ptsL {Rs : List Res} {H : Hp} {p : Addr} {ns : List Int} {ls : List (Addr × List Int)} (h : M (pts (ls ++ [(p, ns)]) :: Rs) H) : M (pt p (.lst (ns.map V.int)) :: pts ls :: Rs) H := by
  have z := M.ptsO (l1 := ls) (l2 := []) h
  rw [List.append_nil] at z
  exact z
theorem M.gotP {Rs : List Res} {H : Hp} {ls : List (Addr × List Int)} (h : M Rs H) (i : Nat) (e : Rs[i]? = some (pts ls)) {q : Addr × List Int} (hq : q ∈ ls) : H q.1 = some (.lst (q.2.map V.int)) := by
  obtain ⟨F, L, ⟨l1, l2, rfl, rfl, b⟩, m⟩ := h.at i e
  exact (m.own (q.1, .lst (q.2.map V.int)) (List.mem_append_left _ (List.mem_map.mpr ⟨q, hq, rfl⟩))).1
theorem M.ptsF {Rs : List Res} {H : Hp} : ∀ {ls : List (Addr × List Int)} {fs : List (Addr × List Int)}, M (pts ls :: fzs fs :: Rs) H → M (fzs (fs ++ ls) :: Rs) H
  | [], fs, h => by
    rw [List.append_nil]
    exact h.tl
  | (p, ns) :: ls, fs, h => by
    have z := M.ptsO (l1 := []) (l2 := ls) h
    have z2 : M (pt p (.lst (ns.map V.int)) :: fzs fs :: pts ls :: Rs) H := z.perm (.cons _ (.swap _ _ _))
    have z3 : M (pts ls :: fzs (fs ++ [(p, ns)]) :: Rs) H := z2.fzs1.perm (.swap _ _ _)
    have z4 := M.ptsF z3
    rw [List.append_assoc] at z4
    exact z4
/-- data of small size -/
structure Sh (dp bk : Nat) (d : PyData) : Prop where
  sh : d.showable = true
  cl : d.canLay0 = true
  lf : d.leavesShort 400 = true
  dp : d.depth ≤ dp
  bk : d.bulk ≤ bk
theorem Sh.shw {dp bk : Nat} {d : PyData} (h : Sh dp bk d) (h1 : dp ≤ 60) (h2 : bk ≤ 40000) : Shw d := by
  refine ⟨h.sh, h.cl, Nat.le_trans h.dp h1, ?_⟩
  have z := PyData.shown_le_bulk 400 (by decide) d h.lf
  have b := h.bk
  rw [sizeLine_eq]
  omega
theorem Sh.int {n : Int} (h : n.natAbs < 2 ^ 1000) : Sh 0 0 (.int n) := by
  have l := log_lt h
  refine ⟨by simpa [PyData.showable] using l, rfl, ?_, by simp [PyData.depth], by simp [PyData.bulk]⟩
  have q : (2 : Nat) ^ 1000 < 10 ^ 310 := by decide +kernel
  have z : (PySem.Str.ofString (toString n)).length ≤ 311 := by
    have := int_text_length_le10 (a := n) (k := 310) (by decide) (by omega)
    rw [PySem.ofString_length]
    exact this
  simp only [PyData.leavesShort, PyData.shown]
  exact decide_eq_true (Nat.le_trans z (show 311 ≤ 400 by decide))
theorem Sh.none : Sh 0 0 .none := ⟨rfl, rfl, rfl, by simp [PyData.depth], by simp [PyData.bulk]⟩
theorem Sh.bool (b : Bool) : Sh 0 0 (.bool b) := ⟨rfl, rfl, rfl, by simp [PyData.depth], by simp [PyData.bulk]⟩
theorem Sh.all {dp bk : Nat} : ∀ {ds : List PyData}, (∀ d ∈ ds, Sh dp bk d) → PyData.showableAll ds = true ∧ PyData.canLayAll0 ds = true ∧ PyData.leavesShortAll 400 ds = true ∧ PyData.depthAll ds ≤ dp ∧ PyData.bulkAll ds ≤ ds.length * (bk + 1)
  | [], _ => ⟨rfl, rfl, rfl, Nat.zero_le _, by simp [PyData.bulkAll]⟩
  | d :: ds, h => by
    have a := h d List.mem_cons_self
    obtain ⟨b1, b2, b3, b4, b5⟩ := Sh.all (ds := ds) fun e he => h e (List.mem_cons_of_mem _ he)
    refine ⟨by simp [PyData.showableAll, a.sh, b1], by simp [PyData.canLayAll0, a.cl, b2], by simp [PyData.leavesShortAll, a.lf, b3], ?_, ?_⟩
    · have := a.dp
      simp only [PyData.depthAll]
      omega
    · have := a.bk
      simp only [PyData.bulkAll, List.length_cons]
      rw [Nat.add_mul]
      omega
theorem Sh.list {dp bk : Nat} {ds : List PyData} (h : ∀ d ∈ ds, Sh dp bk d) : Sh (dp + 1) (ds.length * (bk + 1)) (.list ds) := by
  obtain ⟨b1, b2, b3, b4, b5⟩ := Sh.all h
  exact ⟨by simp only [PyData.showable, b1], by simp only [PyData.canLay0, b2], by simp only [PyData.leavesShort, b3], by simp only [PyData.depth]; omega, by simpa only [PyData.bulk] using b5⟩
theorem Sh.tuple {dp bk : Nat} {ds : List PyData} (h : ∀ d ∈ ds, Sh dp bk d) : Sh (dp + 1) (ds.length * (bk + 1)) (.tuple ds) := by
  obtain ⟨b1, b2, b3, b4, b5⟩ := Sh.all h
  exact ⟨by simp only [PyData.showable, b1], by simp only [PyData.canLay0, b2], by simp only [PyData.leavesShort, b3], by simp only [PyData.depth]; omega, by simpa only [PyData.bulk] using b5⟩
theorem Sh.up {dp bk dp' bk' : Nat} {d : PyData} (h : Sh dp bk d) (h1 : dp ≤ dp') (h2 : bk ≤ bk') : Sh dp' bk' d := ⟨h.sh, h.cl, h.lf, Nat.le_trans h.dp h1, Nat.le_trans h.bk h2⟩
/-- lists of ints, lists of such -/
def dI (ns : List Int) : PyData := .list (ns.map PyData.int)
def dL (ls : List (List Int)) : PyData := .list (ls.map dI)
theorem Sh.ints {ns : List Int} {k : Nat} (h : ∀ n ∈ ns, n.natAbs < 2 ^ 1000) (hk : ns.length ≤ k) : Sh 1 k (dI ns) := by
  refine (Sh.list (dp := 0) (bk := 0) fun d hd => ?_).up (Nat.le_refl _) (by simp; exact hk)
  obtain ⟨n, hn, rfl⟩ := List.mem_map.mp hd
  exact Sh.int (h n hn)
theorem Sh.lists {ls : List (List Int)} {k m : Nat} (h : ∀ l ∈ ls, ∀ n ∈ l, n.natAbs < 2 ^ 1000) (hk : ∀ l ∈ ls, l.length ≤ k) (hm : ls.length ≤ m) : Sh 2 (m * (k + 1)) (dL ls) := by
  refine (Sh.list (dp := 1) (bk := k) fun d hd => ?_).up (Nat.le_refl _) (by rw [List.length_map]; exact Nat.mul_le_mul_right _ hm)
  obtain ⟨l, hl, rfl⟩ := List.mem_map.mp hd
  exact Sh.ints (h l hl) (hk l hl)
theorem dpAll_lists {K : PySem.W.Frag} {H : Hp} : ∀ {ls : List (Addr × List Int)}, (∀ q ∈ ls, H q.1 = some (.lst (q.2.map V.int))) → DpAll K H (rfs ls) ((ls.map (·.2)).map dI)
  | [], _ => .nil
  | q :: ls, h => .cons (dp_ints (SqL.of (h q List.mem_cons_self))) (dpAll_lists fun r hr => h r (List.mem_cons_of_mem _ hr))
theorem dp_lists {K : PySem.W.Frag} {H : Hp} {p : Addr} {ls : List (Addr × List Int)} (hp : SqL K H p (rfs ls)) (h : ∀ q ∈ ls, H q.1 = some (.lst (q.2.map V.int))) : Dp K H (.ref p) (dL (ls.map (·.2))) := .lst hp (dpAll_lists h)
/-! ### data that stand for ever -/
theorem M.dupF2 {K : PySem.W.Frag} {Rs : List Res} {H : Hp} {p : Addr} {ls : List (Addr × List Int)} (h : M (fz p (.lst (rfs ls)) :: fzs ls :: Rs) H) : M (dt K (.ref p) (dL (ls.map (·.2))) :: fz p (.lst (rfs ls)) :: fzs ls :: Rs) H := by
  obtain ⟨F, L, ⟨l1, l2, rfl, ⟨rfl, e⟩, l3, l4, rfl, ⟨rfl, f⟩, b⟩, m⟩ := h
  exact ⟨F, l4, ⟨[], l4, rfl, ⟨rfl, dp_lists (SqL.of e) f⟩, [], l4, rfl, ⟨rfl, e⟩, [], l4, rfl, ⟨rfl, f⟩, b⟩, m⟩
theorem M.toF2 {Rs : List Res} {H : Hp} {p : Addr} {ls : List (Addr × List Int)} (h : M (pt p (.lst (rfs ls)) :: pts ls :: Rs) H) : M (fz p (.lst (rfs ls)) :: fzs ls :: Rs) H := by
  have z : M (pts ls :: fzs [] :: fz p (.lst (rfs ls)) :: Rs) H := h.fix.fzs0.perm ((List.Perm.cons _ (.swap _ _ _)).trans (.swap _ _ _))
  have y := z.ptsF
  rw [List.nil_append] at y
  exact y.perm (.swap _ _ _)
theorem M.tup2 {K : PySem.W.Frag} {Rs : List Res} {H : Hp} {t : Addr} {x y : V} {d e : PyData} (h : M (pt t (.tup [x, y]) :: dt K x d :: dt K y e :: Rs) H) : M (dt K (.ref t) (.tuple [d, e]) :: dt K x d :: dt K y e :: Rs) H := by
  obtain ⟨F, L, ⟨l1, l2, rfl, ⟨rfl, e1⟩, l3, l4, rfl, ⟨rfl, e2⟩, l5, l6, rfl, ⟨rfl, e3⟩, b⟩, m⟩ := h.fix
  exact ⟨F, l6, ⟨[], l6, rfl, ⟨rfl, .tup (SqT.of e1) (.cons e2 (.cons e3 .nil))⟩, [], l6, rfl, ⟨rfl, e2⟩, [], l6, rfl, ⟨rfl, e3⟩, b⟩, m⟩
/-- values that are data for ever -/
def dtA (K : PySem.W.Frag) (vs : List V) (ds : List PyData) : Res := ⟨fun F l => l = [] ∧ DpAll K F vs ds, fun _ _ _ e h => ⟨h.1, DpAll_ext e h.2⟩⟩
theorem M.dtA0 {K : PySem.W.Frag} {Rs : List Res} {H : Hp} (h : M Rs H) : M (dtA K [] [] :: Rs) H := by
  obtain ⟨F, L, a, m⟩ := h
  exact ⟨F, L, ⟨[], L, rfl, ⟨rfl, .nil⟩, a⟩, m⟩
theorem DpAll.snoc {K : PySem.W.Frag} {H : Hp} {v : V} {d : PyData} (h : Dp K H v d) : ∀ {vs : List V} {ds : List PyData}, DpAll K H vs ds → DpAll K H (vs ++ [v]) (ds ++ [d])
  | _, _, .nil => .cons h .nil
  | _, _, .cons a r => .cons a (DpAll.snoc h r)
theorem DpAll.get {K : PySem.W.Frag} {H : Hp} : ∀ {vs : List V} {ds : List PyData}, DpAll K H vs ds → ∀ {i : Nat} {v : V}, vs[i]? = some v → ∃ d, d ∈ ds ∧ Dp K H v d
  | _, _, .nil, i, v, h => by simp at h
  | _, _, .cons a r, 0, v, h => by
    cases (Option.some.inj h)
    exact ⟨_, List.mem_cons_self, a⟩
  | _, _, .cons a r, i + 1, v, h => by
    obtain ⟨d, h1, h2⟩ := DpAll.get r (i := i) (v := v) (by simpa using h)
    exact ⟨d, List.mem_cons_of_mem _ h1, h2⟩
theorem M.dtA1 {K : PySem.W.Frag} {Rs : List Res} {H : Hp} {vs : List V} {ds : List PyData} {v : V} {d : PyData} (h : M (dt K v d :: dtA K vs ds :: Rs) H) : M (dtA K (vs ++ [v]) (ds ++ [d]) :: Rs) H := by
  obtain ⟨F, L, ⟨l1, l2, rfl, ⟨rfl, e⟩, l3, l4, rfl, ⟨rfl, f⟩, b⟩, m⟩ := h
  exact ⟨F, l4, ⟨[], l4, rfl, ⟨rfl, DpAll.snoc e f⟩, b⟩, m⟩
theorem M.gotA {K : PySem.W.Frag} {Rs : List Res} {H : Hp} {vs : List V} {ds : List PyData} (h : M Rs H) (i : Nat) (e : Rs[i]? = some (dtA K vs ds)) : DpAll K H vs ds := by
  obtain ⟨F, L, ⟨l1, l2, rfl, ⟨_, q⟩, b⟩, m⟩ := h.at i e
  exact DpAll_ext m.ex q
theorem Dp.tup2 {K : PySem.W.Frag} {H : Hp} {v : V} {d e : PyData} (h : Dp K H v (.tuple [d, e])) : ∃ t x y, v = .ref t ∧ SqT K H t [x, y] ∧ Dp K H x d ∧ Dp K H y e := by
  cases h with
  | tup h1 h2 =>
    cases h2 with
    | cons a r =>
      cases r with
      | cons b r =>
        cases r
        exact ⟨_, _, _, rfl, h1, a, b⟩
/-! ### data for ever: opened, closed -/
theorem DpAll.length {K : PySem.W.Frag} {H : Hp} : ∀ {vs : List V} {ds : List PyData}, DpAll K H vs ds → vs.length = ds.length
  | _, _, .nil => rfl
  | _, _, .cons _ r => by rw [List.length_cons, List.length_cons, DpAll.length r]
theorem DpAll.at {K : PySem.W.Frag} {H : Hp} : ∀ {vs : List V} {ds : List PyData}, DpAll K H vs ds → ∀ {i : Nat} {v : V}, vs[i]? = some v → ∃ d, ds[i]? = some d ∧ Dp K H v d
  | _, _, .nil, i, v, h => by simp at h
  | _, _, .cons a r, 0, v, h => by
    cases (Option.some.inj h)
    exact ⟨_, rfl, a⟩
  | _, _, .cons a r, i + 1, v, h => by
    obtain ⟨d, h1, h2⟩ := DpAll.at r (i := i) (v := v) (by simpa using h)
    exact ⟨d, by simpa using h1, h2⟩
theorem DpAll.ofD {K : PySem.W.Frag} {H : Hp} : ∀ {vs : List V} {ds : List PyData}, DpAll K H vs ds → ∀ {i : Nat} {d : PyData}, ds[i]? = some d → ∃ v, vs[i]? = some v ∧ Dp K H v d
  | _, _, .nil, i, v, h => by simp at h
  | _, _, .cons a r, 0, v, h => by
    cases (Option.some.inj h)
    exact ⟨_, rfl, a⟩
  | _, _, .cons a r, i + 1, v, h => by
    obtain ⟨d, h1, h2⟩ := DpAll.ofD r (i := i) (d := v) (by simpa using h)
    exact ⟨d, by simpa using h1, h2⟩
theorem DpAll.take {K : PySem.W.Frag} {H : Hp} : ∀ {vs : List V} {ds : List PyData}, DpAll K H vs ds → ∀ n, DpAll K H (vs.take n) (ds.take n)
  | _, _, .nil, n => by
    rw [List.take_nil, List.take_nil]
    exact .nil
  | _, _, .cons a r, 0 => .nil
  | _, _, .cons a r, n + 1 => .cons a (DpAll.take r n)
theorem DpAll.drop {K : PySem.W.Frag} {H : Hp} : ∀ {vs : List V} {ds : List PyData}, DpAll K H vs ds → ∀ n, DpAll K H (vs.drop n) (ds.drop n)
  | _, _, .nil, n => by
    rw [List.drop_nil, List.drop_nil]
    exact .nil
  | _, _, .cons a r, 0 => .cons a r
  | _, _, .cons a r, n + 1 => DpAll.drop r n
theorem DpAll.ints {K : PySem.W.Frag} {H : Hp} : ∀ {ns : List Int} {vs : List V}, DpAll K H vs (ns.map PyData.int) → vs = ns.map V.int
  | [], _, h => by
    cases h
    rfl
  | n :: r, _, h => by
    cases h with
    | cons a t =>
      cases a
      rw [DpAll.ints t]
      rfl
theorem M.openL {K : PySem.W.Frag} {Rs : List Res} {H : Hp} {v : V} {ds : List PyData} (h : M (dt K v (.list ds) :: Rs) H) : ∃ p vs, v = .ref p ∧ M (rdL K p vs :: dtA K vs ds :: Rs) H := by
  obtain ⟨F, L, ⟨l1, l2, rfl, ⟨rfl, e⟩, b⟩, m⟩ := h
  cases e with
  | lst h1 h2 => exact ⟨_, _, rfl, F, l2, ⟨[], l2, rfl, ⟨rfl, h1⟩, [], l2, rfl, ⟨rfl, h2⟩, b⟩, m⟩
theorem M.fixL {K : PySem.W.Frag} {Rs : List Res} {H : Hp} {p : Addr} {vs : List V} {ds : List PyData} (h : M (pt p (.lst vs) :: dtA K vs ds :: Rs) H) : M (dt K (.ref p) (.list ds) :: Rs) H := by
  obtain ⟨F, L, ⟨l1, l2, rfl, ⟨rfl, e⟩, l3, l4, rfl, ⟨rfl, f⟩, b⟩, m⟩ := h.fix
  exact ⟨F, l4, ⟨[], l4, rfl, ⟨rfl, .lst (SqL.of e) f⟩, b⟩, m⟩
theorem M.fixI {K : PySem.W.Frag} {Rs : List Res} {H : Hp} {p : Addr} {ns : List Int} (h : M (pt p (.lst (ns.map V.int)) :: Rs) H) : M (dt K (.ref p) (dI ns) :: Rs) H := by
  obtain ⟨F, L, ⟨l1, l2, rfl, ⟨rfl, e⟩, b⟩, m⟩ := h.fix
  exact ⟨F, l2, ⟨[], l2, rfl, ⟨rfl, dp_ints (SqL.of e)⟩, b⟩, m⟩
theorem M.openI {K : PySem.W.Frag} {Rs : List Res} {H : Hp} {v : V} {ns : List Int} (h : M (dt K v (dI ns) :: Rs) H) : ∃ p, v = .ref p ∧ M (rdL K p (ns.map V.int) :: Rs) H := by
  obtain ⟨p, vs, rfl, S⟩ := M.openL (ds := ns.map PyData.int) h
  obtain ⟨F, L, ⟨l1, l2, rfl, ⟨rfl, e⟩, l3, l4, rfl, ⟨rfl, f⟩, b⟩, m⟩ := S
  cases DpAll.ints f
  exact ⟨p, rfl, F, l4, ⟨[], l4, rfl, ⟨rfl, e⟩, b⟩, m⟩
theorem Dp.openI {K : PySem.W.Frag} {H : Hp} {v : V} {ns : List Int} (h : Dp K H v (dI ns)) : ∃ p, v = .ref p ∧ SqL K H p (ns.map V.int) := by
  unfold dI at h
  cases h with
  | lst h1 h2 =>
    cases DpAll.ints h2
    exact ⟨_, rfl, h1⟩
theorem M.dtAt {K : PySem.W.Frag} {Rs : List Res} {H : Hp} {vs : List V} {ds : List PyData} (h : M (dtA K vs ds :: Rs) H) {i : Nat} {v : V} (hv : vs[i]? = some v) : ∃ d, ds[i]? = some d ∧ M (dt K v d :: dtA K vs ds :: Rs) H := by
  obtain ⟨F, L, ⟨l1, l2, rfl, ⟨rfl, e⟩, b⟩, m⟩ := h
  obtain ⟨d, h1, h2⟩ := DpAll.at e hv
  exact ⟨d, h1, F, l2, ⟨[], l2, rfl, ⟨rfl, h2⟩, [], l2, rfl, ⟨rfl, e⟩, b⟩, m⟩
theorem M.dupA {K : PySem.W.Frag} {Rs : List Res} {H : Hp} {vs : List V} {ds : List PyData} (h : M (dtA K vs ds :: Rs) H) : M (dtA K vs ds :: dtA K vs ds :: Rs) H := by
  obtain ⟨F, L, ⟨l1, l2, rfl, ⟨rfl, e⟩, b⟩, m⟩ := h
  exact ⟨F, l2, ⟨[], l2, rfl, ⟨rfl, e⟩, [], l2, rfl, ⟨rfl, e⟩, b⟩, m⟩
theorem M.toD {K : PySem.W.Frag} {Rs : List Res} {H : Hp} {p : Addr} {ls : List (Addr × List Int)} (h : M (pt p (.lst (rfs ls)) :: pts ls :: Rs) H) : M (dt K (.ref p) (dL (ls.map (·.2))) :: Rs) H :=
  M.sub (.cons 0 rfl (.tl (.tl (.refl _)))) (h.toF2.dupF2 (K := K))
/-- what a row of resources brings about, itself owning nothing -/
def EntF (Rs : List Res) (R : Res) : Prop := ∀ F L, Sat F Rs L → R.on F []
theorem Sat.split {F : Hp} {R0 : List Res} : ∀ {As : List Res} {L : List Cell}, Sat F (As ++ R0) L → ∃ L1 L2, L = L1 ++ L2 ∧ Sat F As L1 ∧ Sat F R0 L2
  | [], L, h => ⟨[], L, rfl, rfl, h⟩
  | A :: As, L, ⟨l1, l2, e, a, b⟩ => by
    obtain ⟨L1, L2, rfl, h1, h2⟩ := Sat.split b
    exact ⟨l1 ++ L1, L2, by rw [e, List.append_assoc], ⟨l1, L1, rfl, a, h1⟩, h2⟩
theorem M.add {As R0 : List Res} {R : Res} {H : Hp} (e : EntF R0 R) (h : M (As ++ R0) H) : M (R :: (As ++ R0)) H := by
  obtain ⟨F, L, a, m⟩ := h
  obtain ⟨L1, L2, _, _, h2⟩ := a.split
  exact ⟨F, L, ⟨[], L, rfl, e F L2 h2, a⟩, m⟩
theorem M.add0 {R0 : List Res} {R : Res} {H : Hp} (e : EntF R0 R) (h : M R0 H) : M (R :: R0) H := M.add (As := []) e h
theorem EntF.at {Rs : List Res} {R S : Res} (i : Nat) (e : Rs[i]? = some S) (h : ∀ F l, S.on F l → R.on F []) : EntF Rs R := by
  intro F L s
  obtain ⟨L0, p0, l1, l2, rfl, a, b⟩ := s.perm (perm_at i e)
  exact h F l1 a
theorem EntF.dtA {K : PySem.W.Frag} {Rs : List Res} {vs : List V} {ds : List PyData} {j : Nat} {v : V} {d : PyData} (i : Nat) (e : Rs[i]? = some (dtA K vs ds)) (hv : vs[j]? = some v) (hd : ds[j]? = some d) : EntF Rs (dt K v d) :=
  EntF.at i e fun F l h => ⟨rfl, by
    obtain ⟨d', h1, h2⟩ := DpAll.at h.2 hv
    rw [hd] at h1
    cases h1
    exact h2⟩
/-! ### figures to the base 1001 -/
def digsI (r : Int) : List Int := if h : 0 < r then (r % 1001 - 1) :: digsI (r / 1001) else []
termination_by r.toNat
decreasing_by omega
theorem digsI_pos {r : Int} (h : 0 < r) : digsI r = (r % 1001 - 1) :: digsI (r / 1001) := by rw [digsI, dif_pos h]
theorem digsI_no {r : Int} (h : ¬ 0 < r) : digsI r = [] := by rw [digsI, dif_neg h]
def backN (n : Int) : Option (List Int) := if digsI n = [] ∨ 16 < (digsI n).length ∨ -1 ∈ digsI n then none else some (digsI n)
theorem digsI_ne {r : Int} (h : 0 < r) : 0 < (digsI r).length := by rw [digsI_pos h]; simp
theorem digsI_le (r : Int) : ∀ m ∈ digsI r, m.natAbs ≤ 1000 := by
  by_cases h : 0 < r
  · intro m hm
    rw [digsI_pos h] at hm
    rcases List.mem_cons.mp hm with z | z
    · omega
    · exact digsI_le (r / 1001) m z
  · intro m hm
    rw [digsI_no h] at hm
    cases hm
termination_by r.toNat
decreasing_by omega
def sealT : Thing → Option Int
  | .int n => if (backN n).isSome then some n else none
  | _ => none
def sp_is_seal (K : PySem.W.Frag) : Sp := fun vs H Q _ => ∃ (v : V) (th : Thing), vs = [v] ∧ Thg K H v th ∧ Q (.bl (sealT th).isSome) H
theorem len_is_seal {K : PySem.W.Frag} (vs : List V) (H : Hp) (Q : VK) (E : XK) (h : sp_is_seal K vs H Q E) : vs.length = 1 := by
  obtain ⟨v, th, rfl, _⟩ := h
  rfl
theorem u_is_seal {K : PySem.W.Frag} {H : Hp} {v : V} {th : Thing} {Q : VK} {E : XK} (h : Thg K H v th) (k : Q (.bl (sealT th).isSome) H) : sp_is_seal K ([v] ++ []) H Q E := ⟨v, th, rfl, h, k⟩
def sp_l_back (K : PySem.W.Frag) : Sp := fun vs H Q _ => ∃ (Rs : List Res) (n : Int), vs = [.int n] ∧ M Rs H ∧ (backN n = none → ∀ H', M Rs H' → Q .non H') ∧ ∀ ds, backN n = some ds → ∀ p H', M (pt p (.lst (ds.map V.int)) :: Rs) H' → Q (.ref p) H'
theorem len_l_back {K : PySem.W.Frag} (vs : List V) (H : Hp) (Q : VK) (E : XK) (h : sp_l_back K vs H Q E) : vs.length = 1 := by
  obtain ⟨Rs, i, rfl, _⟩ := h
  rfl
def sealN (ns : List Int) : Int := ns.foldr (fun s acc => acc * 1001 + s + 1) 0
def sp_seal_of (K : PySem.W.Frag) : Sp := fun vs H Q _ => ∃ (a : Addr) (ns : List Int), vs = [.ref a] ∧ SqL K H a (ns.map V.int) ∧ Signs 1 16 ns ∧ Q (.int (sealN ns)) H
def sp_l_sum (K : PySem.W.Frag) : Sp := fun vs H Q _ => ∃ (a : Addr) (ns : List Int), vs = [.ref a] ∧ SqL K H a (ns.map V.int) ∧ Signs 0 16 ns ∧ Q (.int (sealN ns)) H
theorem len_seal_of {K : PySem.W.Frag} (vs : List V) (H : Hp) (Q : VK) (E : XK) (h : sp_seal_of K vs H Q E) : vs.length = 1 := by
  obtain ⟨a, ns, rfl, _⟩ := h
  rfl
theorem len_l_sum {K : PySem.W.Frag} (vs : List V) (H : Hp) (Q : VK) (E : XK) (h : sp_l_sum K vs H Q E) : vs.length = 1 := by
  obtain ⟨a, ns, rfl, _⟩ := h
  rfl
theorem u_seal_of {K : PySem.W.Frag} {H : Hp} {a : Addr} {ns : List Int} {Q : VK} {E : XK} (h : SqL K H a (ns.map V.int)) (sg : Signs 1 16 ns) (k : Q (.int (sealN ns)) H) : sp_seal_of K ([.ref a] ++ []) H Q E := ⟨a, ns, rfl, h, sg, k⟩
theorem u_l_sum {K : PySem.W.Frag} {H : Hp} {a : Addr} {ns : List Int} {Q : VK} {E : XK} (h : SqL K H a (ns.map V.int)) (sg : Signs 0 16 ns) (k : Q (.int (sealN ns)) H) : sp_l_sum K ([.ref a] ++ []) H Q E := ⟨a, ns, rfl, h, sg, k⟩
abbrev t_is_seal_8 (K : PySem.W.Frag) : TS := (tIfS (tTest (tOp (uEq K) (tVar 1) (tC (.int 0)))) (tRet (tC (.bl true))) tNext)
abbrev t_is_seal_7 (K : PySem.W.Frag) : TS := (tSeq (tAug 1 (tC (.int 1001)) iDiv)
  (t_is_seal_8 K))
abbrev t_is_seal_5 (K : PySem.W.Frag) : TS := (tSeq (tIfS (tTest (tOp (uEq K) (tOp uMod (tVar 1) (tC (.int 1001))) (tC (.int 0)))) (tRet (tC (.bl false))) tNext)
  (t_is_seal_7 K))
abbrev t_is_seal_4 (K : PySem.W.Frag) : TS := (tSeq (tFor (iRng1 (tCons (tC (.int 16)) tNil)) (gName 2) (t_is_seal_5 K))
  (tRet (tC (.bl false))))
abbrev t_is_seal_3 (K : PySem.W.Frag) : TS := (tSeq (tAsg (tVar 0) (gName 1))
  (t_is_seal_4 K))
abbrev t_is_seal_1 (K : PySem.W.Frag) : TS := (tSeq (tIfS (tOr (tNot (tB (tCall (sp_is_whole K) [] E0 (tCons (tVar 0) tNil)))) (tTest (tOp uLt (tVar 0) (tC (.int 1))))) (tRet (tC (.bl false))) tNext)
  (t_is_seal_3 K))
abbrev t_is_seal (K : PySem.W.Frag) : TS := (t_is_seal_1 K)
abbrev t_l_back_3 (K : PySem.W.Frag) : TS := (tSeq (tDrop (tBM K "list" rAppend (tVar 2) (tCons (tOp uSub (tOp uMod (tVar 1) (tC (.int 1001))) (tC (.int 1))) tNil)))
  (tAsg (tOp uDiv (tVar 1) (tC (.int 1001))) (gName 1)))
abbrev t_l_back_5 (K : PySem.W.Frag) : TS := (tSeq (tIfS (tOr (tTest (tOp (uEq K) (tVar 2) (tLst tNil))) (tOr (tTest (tOp uGt (tCB (uLen K) (tCons (tVar 2) tNil)) (tC (.int 16)))) (tTest (tOp (uIn K) (tUn (rU fun i => .int (-i)) (tC (.int 1))) (tVar 2))))) (tRet (tC .non)) tNext)
  (tRet (tVar 2)))
abbrev t_l_back_2 (K : PySem.W.Frag) : TS := (tSeq (tWhile (tAnd (tTest (tOp uGt (tVar 1) (tC (.int 0)))) (tTest (tOp uLt (tCB (uLen K) (tCons (tVar 2) tNil)) (tC (.int 17))))) (t_l_back_3 K))
  (t_l_back_5 K))
abbrev t_l_back_1 (K : PySem.W.Frag) : TS := (tSeq (tPar 1 2 (tCons (tVar 0) (tCons (tLst tNil) tNil)))
  (t_l_back_2 K))
abbrev t_l_back (K : PySem.W.Frag) : TS := (t_l_back_1 K)
abbrev t_seal_of_4 (K : PySem.W.Frag) : TS := (tSeq (tFor (iRev K (tCons (tVar 0) tNil)) (gName 2) (tAsg (tOp (uAdd K) (tOp (uAdd K) (tOp uMul (tVar 1) (tC (.int 1001))) (tVar 2)) (tC (.int 1))) (gName 1)))
  (tRet (tVar 1)))
abbrev t_seal_of_3 (K : PySem.W.Frag) : TS := (tSeq (tAsg (tC (.int 0)) (gName 1))
  (t_seal_of_4 K))
abbrev t_seal_of_1 (K : PySem.W.Frag) : TS := (tSeq (tIfS (tNot (tB (tCall (sp_are_signs K) [] E0 (tCons (tVar 0) (tCons (tC (.int 1)) (tCons (tC (.int 16)) tNil)))))) tNever tNext)
  (t_seal_of_3 K))
abbrev t_seal_of (K : PySem.W.Frag) : TS := (t_seal_of_1 K)
abbrev t_l_sum_4 (K : PySem.W.Frag) : TS := (tSeq (tAug 1 (tOp uMul (tOp (uAdd K) (tVar 3) (tC (.int 1))) (tVar 2)) iAdd)
  (tAug 2 (tC (.int 1001)) iMul))
abbrev t_l_sum_3 (K : PySem.W.Frag) : TS := (tSeq (tFor (iList K (tVar 0)) (gName 3) (t_l_sum_4 K))
  (tRet (tVar 1)))
abbrev t_l_sum_2 (K : PySem.W.Frag) : TS := (tSeq (tAsg (tC (.int 1)) (gName 2))
  (t_l_sum_3 K))
abbrev t_l_sum_1 (K : PySem.W.Frag) : TS := (tSeq (tAsg (tC (.int 0)) (gName 1))
  (t_l_sum_2 K))
abbrev t_l_sum (K : PySem.W.Frag) : TS := (t_l_sum_1 K)
theorem inV_ints (n : Int) : ∀ ns : List Int, inV (.int n) (ns.map V.int) = decide (n ∈ ns)
  | [] => by simp [inV]
  | m :: r => by
    have ih := inV_ints n r
    unfold inV at ih ⊢
    rw [List.map_cons, List.any_cons, ih]
    have e : eqV (V.int m) (V.int n) = decide (m = n) := by
      show (m == n) = decide (m = n)
      rw [Bool.eq_iff_iff]
      simp
    rw [e]
    by_cases h : m = n
    · simp [h]
    · have h2 : ¬ n = m := fun z => h z.symm
      simp [h, h2]
theorem pure_is_seal {K : PySem.W.Frag} (vs : List V) (H : Hp) (Q : VK) (E : XK) (h : sp_is_seal K vs H Q E) : t_is_seal K { nx := fun _ H' => Q .non H', rt := Q } (L2.start ["thing", "rest", "turn"] vs) H := by
  obtain ⟨v, th, rfl, ht, k0⟩ := h
  show t_is_seal K _ [some v, none, none] H
  walk_at "go"
  refine ⟨v, th, rfl, ht, ?_⟩
  cases ht with
  | lst h =>
    dsimp only [Thing.isInt]
    walk_at "go"
    exact k0
  | oth h ht =>
    dsimp only [Thing.isInt]
    walk_at "go"
    exact k0
  | int n =>
  have k : Q (.bl (backN n).isSome) H := by
    have e : (sealT (.int n)).isSome = (backN n).isSome := by
      unfold sealT
      dsimp only
      cases (backN n).isSome <;> rfl
    rw [← e]
    exact k0
  dsimp only [Thing.isInt]
  walk_at "go"
  refine v_ifD (fun h => ?_) (fun h => ?_)
  · walk_at "go"
    have e : backN n = none := by
      unfold backN
      rw [if_pos (Or.inl (digsI_no (by omega)))]
    rw [e] at k
    exact k
  · walk_at "go"
    refine v_itR (by decide) ?_
    refine for_W walk_range (fun i σ H' => H' = H ∧ ∃ (pre : List Int) (r : Int) (x : Option V), σ = [some (V.int n), some (V.int r), x] ∧ 0 < r ∧ digsI n = pre ++ digsI r ∧ pre.length = i ∧ ¬ -1 ∈ pre) ⟨rfl, [], n, none, rfl, by omega, rfl, rfl, by simp⟩ (fun _ _ _ _ _ => trivial) ?_ ?_
    · rintro i x σ H1 H2 hi ⟨rfl, pre, r, x2, rfl, hr, hd, hl, hm⟩ ⟨rfl, rfl⟩
      have hi2 : i < 16 := hi
      rw [digsI_pos hr] at hd
      walk_at "go"
      refine v_ifD (fun h => ?_) (fun h => ?_)
      · walk_at "go"
        have e : backN n = none := by
          unfold backN
          refine if_pos (Or.inr (Or.inr ?_))
          rw [hd, h]
          simp
        rw [e] at k
        exact k
      · walk_at "go"
        have hm2 : ¬ -1 ∈ pre ++ [r % 1001 - 1] := by
          intro z
          rcases List.mem_append.mp z with z | z
          · exact hm z
          · have := List.mem_singleton.mp z
            omega
        refine v_ifD (fun h2 => ?_) (fun h2 => ?_)
        · walk_at "go"
          have e : backN n = some (digsI n) := by
            unfold backN
            rw [if_neg]
            rw [hd, digsI_no (by omega)]
            rintro (z | z | z)
            · simp at z
            · simp at z
              omega
            · exact hm2 z
          rw [e] at k
          exact k
        · walk_at "go"
          exact ⟨rfl, pre ++ [r % 1001 - 1], r / 1001, _, rfl, by omega, by rw [hd, List.append_assoc]; rfl, by simp [hl], hm2⟩
    · rintro σ H1 ⟨rfl, pre, r, x2, rfl, hr, hd, hl, hm⟩
      walk_at "go"
      have hl2 : pre.length = 16 := hl
      have e : backN n = none := by
        unfold backN
        refine if_pos (Or.inr (Or.inl ?_))
        have := digsI_ne hr
        rw [hd, List.length_append]
        omega
      rw [e] at k
      exact k
theorem pure_l_back {K : PySem.W.Frag} (vs : List V) (H : Hp) (Q : VK) (E : XK) (h : sp_l_back K vs H Q E) : t_l_back K { nx := fun _ H' => Q .non H', rt := Q } (L2.start ["_law_number_here", "_law_rest", "_law_found"] vs) H := by
  obtain ⟨Rs, n, rfl, S, k1, k2⟩ := h
  show t_l_back K _ [some (V.int n), none, none] H
  walk_at "go"
  refine v_lst S (by simp) fun fo H1 S1 => ?_
  walk_at "go"
  refine wh_I (fun m σ H' => ∃ (pre : List Int) (r : Int), m = r.toNat ∧ σ = [some (V.int n), some (V.int r), some (V.ref fo)] ∧ digsI n = pre ++ digsI r ∧ pre.length ≤ 17 ∧ M (pt fo (.lst (pre.map V.int)) :: Rs) H') n.toNat ⟨[], n, rfl, rfl, rfl, by simp, S1⟩ ?_
  rintro m σ H2 ⟨pre, r, rfl, rfl, hd, hp, S2⟩
  -- behind the loop
  have fin : (¬ 0 < r ∨ pre.length = 17) → t_l_back_5 K { nx := fun _ H' => Q .non H', rt := Q } [some (V.int n), some (V.int r), some (V.ref fo)] H2 := by
    intro hend
    have hb : (pre = [] ∨ 16 < pre.length ∨ -1 ∈ pre → backN n = none) ∧ (¬ (pre = [] ∨ 16 < pre.length ∨ -1 ∈ pre) → backN n = some pre) := by
      rcases hend with h | h
      · rw [digsI_no h, List.append_nil] at hd
        unfold backN
        rw [hd]
        exact ⟨fun z => if_pos z, fun z => if_neg z⟩
      · refine ⟨fun _ => ?_, fun z => absurd (Or.inr (Or.inl (by omega))) z⟩
        unfold backN
        refine if_pos (Or.inr (Or.inl ?_))
        rw [hd, List.length_append]
        omega
    walk_at "st"
    refine v_lst S2 (by simp) fun em H3 S3 => ?_
    refine v_eqD (dp_ints (SqL.of (S3.got 1 rfl))) (dp_ints (ns := []) (SqL.of (S3.got 0 rfl))) (shaped_ints _) (shaped_ints _) ?_
    rw [eqv_ints]
    walk_at "ev"
    refine v_ifD (fun h => ?_) (fun h => ?_)
    · walk_at "go"
      exact k1 (hb.1 (Or.inl h)) _ S3.tl.tl
    · walk_at "ev"
      rw [List.length_map]
      refine v_ifD (fun h2 => ?_) (fun h2 => ?_)
      · walk_at "go"
        exact k1 (hb.1 (Or.inr (Or.inl (by omega)))) _ S3.tl.tl
      · walk_at "ev"
        refine .inl ⟨fo, pre.map V.int, rfl, .inl (SqL.of (S3.got 1 rfl)), rfl, ?_, ?_⟩
        · rw [List.all_map, List.all_eq_true]
          intro x _
          rfl
        · show ∃ b, V.bl (inV (.int (-1)) (pre.map V.int)) = V.bl b ∧ _
          rw [inV_ints]
          walk_at "ev"
          refine v_ifD (fun h3 => ?_) (fun h3 => ?_)
          · walk_at "go"
            exact k1 (hb.1 (Or.inr (Or.inr h3))) _ S3.tl.tl
          · walk_at "go"
            exact k2 _ (hb.2 (by rintro (z | z | z); exact h z; omega; exact h3 z)) fo _ S3.tl
  walk_at "ev"
  refine v_ifD (fun h => ?_) (fun h => ?_)
  · walk_at "ev"
    rw [List.length_map]
    refine v_ifD (fun h2 => ?_) (fun h2 => ?_)
    · refine wh_N ?_
      rw [digsI_pos h] at hd
      walk_at "go"
      refine v_tyL (SqL.of (S2.got 0 rfl)) ?_
      walk_at "go"
      refine v_app S2 0 rfl (by rw [List.length_map]; omega) fun H3 S3 => ?_
      walk_at "go"
      refine ⟨(r / 1001).toNat, by omega, pre ++ [r % 1001 - 1], r / 1001, rfl, rfl, by rw [hd, List.append_assoc]; rfl, by simp; omega, ?_⟩
      rw [List.map_append]
      exact S3
    · walk_at "nx"
      exact fin (Or.inr (by omega))
  · walk_at "ev"
    walk_at "nx"
    exact fin (Or.inl h)
theorem drop_back {ns : List Int} {i : Nat} {n : Int} (hi : i < ns.length) (h : ns[ns.length - 1 - i]? = some n) : ns.drop (ns.length - (i + 1)) = n :: ns.drop (ns.length - i) := by
  have e : ns.length - (i + 1) = ns.length - 1 - i := by omega
  have hl : ns.length - 1 - i < ns.length := by omega
  rw [e, List.drop_eq_getElem_cons hl]
  have e2 : ns[ns.length - 1 - i] = n := by
    rw [List.getElem?_eq_getElem hl] at h
    exact Option.some.inj h
  have e3 : ns.length - 1 - i + 1 = ns.length - i := by omega
  rw [e2, e3]
theorem pure_seal_of {K : PySem.W.Frag} (vs : List V) (H : Hp) (Q : VK) (E : XK) (h : sp_seal_of K vs H Q E) : t_seal_of K { nx := fun _ H' => Q .non H', rt := Q } (L2.start ["signs", "found", "sign"] vs) H := by
  obtain ⟨a, ns, rfl, hS, sg, k⟩ := h
  show t_seal_of K _ [some (V.ref a), none, none] H
  walk_at "go"
  refine ⟨_, _, 1, 16, rfl, .lst hS, items_ints ns, ?_⟩
  have e : signsT 1 16 (.lst (ns.map V.int)) = some ns := by
    have h1 := sg.lo
    have h2 := sg.hi
    unfold signsT
    dsimp only
    rw [if_pos ⟨by rw [List.length_map]; omega, by rw [List.length_map]; omega⟩, sgnsV_ints sg.sg]
  rw [e]
  dsimp only [Option.isSome]
  walk_at "go"
  refine v_itV hS ?_
  refine for_W walk_rev (fun i σ H' => H' = H ∧ ∃ v, σ = [some (V.ref a), some (V.int (sealN (ns.drop (ns.length - i)))), v]) ⟨rfl, none, by rw [Nat.sub_zero, List.drop_length]; rfl⟩ (fun i σ H' _ h => by rw [h.1]; exact hS) ?_ ?_
  · rintro i x σ H1 H2 hi ⟨rfl, v, rfl⟩ ⟨rfl, hx⟩
    rw [List.length_map] at hi hx
    obtain ⟨n, hn, rfl⟩ := ints_get hx
    walk_at "go"
    refine ⟨rfl, some (V.int n), ?_⟩
    rw [drop_back hi hn]
    rfl
  · rintro σ H2 ⟨rfl, v, rfl⟩
    walk_at "go"
    rw [List.length_map, Nat.sub_self, List.drop_zero]
    exact k
def sumFrom (p : Int) : List Int → Int
  | [] => 0
  | n :: r => (n + 1) * p + sumFrom (p * 1001) r
theorem sumFrom_eq : ∀ (ns : List Int) (p : Int), sumFrom p ns = p * sealN ns
  | [], p => by simp [sumFrom, sealN]
  | n :: r, p => by
    show (n + 1) * p + sumFrom (p * 1001) r = p * (sealN r * 1001 + n + 1)
    rw [sumFrom_eq r (p * 1001)]
    rw [Int.mul_add, Int.mul_add, Int.add_mul, Int.mul_comm n p, Int.mul_assoc p 1001, Int.mul_comm 1001 (sealN r)]
    omega
theorem sumFrom_app : ∀ (l : List Int) (n p : Int), sumFrom p (l ++ [n]) = sumFrom p l + (n + 1) * (p * 1001 ^ l.length)
  | [], n, p => by simp [sumFrom]
  | m :: l, n, p => by
    show (m + 1) * p + sumFrom (p * 1001) (l ++ [n]) = (m + 1) * p + sumFrom (p * 1001) l + (n + 1) * (p * 1001 ^ (l.length + 1))
    rw [sumFrom_app l n (p * 1001), Int.pow_succ, Int.mul_assoc p 1001, Int.mul_comm 1001 (1001 ^ l.length)]
    omega
theorem pure_l_sum {K : PySem.W.Frag} (vs : List V) (H : Hp) (Q : VK) (E : XK) (h : sp_l_sum K vs H Q E) : t_l_sum K { nx := fun _ H' => Q .non H', rt := Q } (L2.start ["_law_signs_here", "_law_found", "_law_times", "_law_sign"] vs) H := by
  obtain ⟨a, ns, rfl, hS, sg, k⟩ := h
  show t_l_sum K _ [some (V.ref a), none, none, none] H
  walk_at "go"
  refine v_itL hS ?_
  refine for_W walk_list (fun i σ H' => H' = H ∧ ∃ v, σ = [some (V.ref a), some (V.int (sumFrom 1 (ns.take i))), some (V.int (1001 ^ i)), v]) ⟨rfl, none, rfl⟩ (fun i σ H' _ h => by rw [h.1]; exact hS) ?_ ?_
  · rintro i x σ H1 H2 hi ⟨rfl, v, rfl⟩ ⟨rfl, hx⟩
    obtain ⟨n, hn, rfl⟩ := ints_get hx
    have b := sg.sg n (List.mem_of_getElem? hn)
    have hl : i < ns.length := (List.getElem?_eq_some_iff.mp hn).1
    walk_at "go"
    refine ⟨rfl, some (V.int n), ?_⟩
    rw [take_more hn, sumFrom_app, List.length_take, Nat.min_eq_left (Nat.le_of_lt hl), Int.one_mul, Int.pow_succ]
    rfl
  · rintro σ H2 ⟨rfl, v, rfl⟩
    walk_at "go"
    rw [List.length_map, List.take_length, sumFrom_eq, Int.one_mul]
    exact k
/-! ### a shelf, plainly: seal, how often held, body -/
abbrev Ent3 := Int × Int × Option (List Int)
abbrev Shst := List Ent3
def getS (st : Shst) (s : Int) : Option (Int × Option (List Int)) := (st.find? fun e => decide (e.1 = s)).map (·.2)
def setS (st : Shst) (s : Int) (x : Int × Option (List Int)) : Shst := if (getS st s).isSome then st.map (fun e => if e.1 = s then (s, x) else e) else st ++ [(s, x)]
def delS (st : Shst) (s : Int) : Shst := st.filter fun e => decide (e.1 ≠ s)
def keysS (st : Shst) : List Int := st.map (·.1)
/-- a body that is a piece's own -/
def soundB (s : Int) : Option (List Int) → Bool
  | none => false
  | some ns => !decide (ns = []) && decide (sealN ns = s)
structure ShOk (room : Int) (st : Shst) : Prop where
  r1 : 1 ≤ room
  r2 : room ≤ 400
  le : (st.length : Int) ≤ room
  nd : (keysS st).Nodup
  ct : ∀ e ∈ st, 1 ≤ e.2.1
  bd : ∀ e ∈ st, ∀ ns, e.2.2 = some ns → ns.length ≤ 16 ∧ ∀ n ∈ ns, 0 ≤ n ∧ n ≤ 999
  sl : ∀ e ∈ st, (backN e.1).isSome = true
theorem getS_nil (s : Int) : getS [] s = none := rfl
theorem getS_cons (e : Ent3) (r : Shst) (s : Int) : getS (e :: r) s = if e.1 = s then some e.2 else getS r s := by
  unfold getS
  by_cases h : e.1 = s
  · rw [if_pos h, List.find?_cons_of_pos (by simpa using h)]
    rfl
  · rw [if_neg h, List.find?_cons_of_neg (by simpa using h)]
theorem getS_mem {st : Shst} {s : Int} {x : Int × Option (List Int)} (h : getS st s = some x) : (s, x) ∈ st := by
  unfold getS at h
  obtain ⟨e, h1, h2⟩ := Option.map_eq_some_iff.mp h
  have h3 := List.find?_some h1
  have h4 := List.mem_of_find?_eq_some h1
  have h5 : e.1 = s := by simpa using h3
  subst h5
  subst h2
  exact h4
theorem getS_none {st : Shst} {s : Int} (h : getS st s = none) : s ∉ keysS st := by
  intro hm
  obtain ⟨e, he, rfl⟩ := List.mem_map.mp hm
  unfold getS at h
  rw [Option.map_eq_none_iff, List.find?_eq_none] at h
  exact h e he (by simp)
theorem getS_isSome {st : Shst} {s : Int} : (getS st s).isSome = decide (s ∈ keysS st) := by
  cases h : getS st s with
  | none => rw [decide_eq_false (getS_none h)]; rfl
  | some x =>
    have hm : s ∈ keysS st := List.mem_map.mpr ⟨(s, x), getS_mem h, rfl⟩
    rw [decide_eq_true hm]
    rfl
theorem keysS_set_old {st : Shst} {s : Int} {x : Int × Option (List Int)} (h : (getS st s).isSome = true) : keysS (setS st s x) = keysS st := by
  unfold setS
  rw [if_pos h]
  unfold keysS
  rw [List.map_map]
  refine List.map_congr_left fun e _ => ?_
  show (if e.1 = s then (s, x) else e).1 = e.1
  split
  · rename_i z
    exact z.symm
  · rfl
theorem keysS_set_new {st : Shst} {s : Int} {x : Int × Option (List Int)} (h : getS st s = none) : setS st s x = st ++ [(s, x)] := by
  unfold setS
  rw [h]
  rfl
theorem mem_setS {st : Shst} {s : Int} {x : Int × Option (List Int)} {e : Ent3} (h : e ∈ setS st s x) : e ∈ st ∨ e = (s, x) := by
  unfold setS at h
  split at h
  · obtain ⟨e2, h1, rfl⟩ := List.mem_map.mp h
    split
    · exact .inr rfl
    · exact .inl h1
  · rcases List.mem_append.mp h with h | h
    · exact .inl h
    · exact .inr (List.mem_singleton.mp h)
theorem ShOk.set {room : Int} {st : Shst} {s : Int} {x : Int × Option (List Int)} (h : ShOk room st) (hl : getS st s = none → (st.length : Int) < room) (hc : 1 ≤ x.1) (hb : ∀ ns, x.2 = some ns → ns.length ≤ 16 ∧ ∀ n ∈ ns, 0 ≤ n ∧ n ≤ 999) (hs : (backN s).isSome = true) : ShOk room (setS st s x) := by
  refine ⟨h.r1, h.r2, ?_, ?_, fun e he => ?_, fun e he => ?_, fun e he => ?_⟩
  · cases e : getS st s with
    | none =>
      rw [keysS_set_new e, List.length_append]
      have := hl e
      simp
      omega
    | some y =>
      have e2 := congrArg List.length (keysS_set_old (x := x) (st := st) (s := s) (by rw [e]; rfl))
      simp only [keysS, List.length_map] at e2
      have := h.le
      omega
  · cases e : getS st s with
    | none =>
      rw [keysS_set_new e]
      unfold keysS
      rw [List.map_append, List.nodup_append]
      refine ⟨h.nd, by simp, ?_⟩
      intro a ha b hb z
      have hb2 : b = s := by simpa using hb
      subst hb2
      subst z
      exact getS_none e ha
    | some y =>
      rw [keysS_set_old (by rw [e]; rfl)]
      exact h.nd
  · rcases mem_setS he with z | rfl
    · exact h.ct e z
    · exact hc
  · rcases mem_setS he with z | rfl
    · exact h.bd e z
    · exact hb
  · rcases mem_setS he with z | rfl
    · exact h.sl e z
    · exact hs
theorem ShOk.del {room : Int} {st : Shst} (h : ShOk room st) (s : Int) : ShOk room (delS st s) := by
  refine ⟨h.r1, h.r2, ?_, ?_, fun e he => h.ct e (List.mem_filter.mp he).1, fun e he => h.bd e (List.mem_filter.mp he).1, fun e he => h.sl e (List.mem_filter.mp he).1⟩
  · have := h.le
    have h2 : (delS st s).length ≤ st.length := List.length_filter_le ..
    omega
  · exact h.nd.sublist (List.filter_sublist.map _)
/-! ### what a deed comes to -/
inductive Rf where
  | wrong (i : Int)
  | room (r : Int)
  | piece (s : Int)
  | unlike (s : Int)
  | broken (s : Int)
inductive Told where
  | non
  | bl (b : Bool)
  | int (n : Int)
  | lst (ns : List Int)
def Told.dat : Told → PyData
  | .non => .none
  | .bl b => .bool b
  | .int n => .int n
  | .lst ns => dI ns
def Rf.word : Rf → Str
  | .wrong _ => "wrong"
  | .room _ => "room"
  | .piece _ => "piece"
  | .unlike _ => "unlike"
  | .broken _ => "broken"
def Rf.val : Rf → Int
  | .wrong i => i
  | .room i => i
  | .piece i => i
  | .unlike i => i
  | .broken i => i
def Rf.cls : Rf → Str
  | .wrong _ => "Wrong"
  | .room _ => "NoRoom"
  | .piece _ => "NoPiece"
  | .unlike _ => "Unlike"
  | .broken _ => "Broken"
def Rf.fld : Rf → Str
  | .wrong _ => "at"
  | .room _ => "room"
  | _ => "seal"
abbrev Oc := Except Rf (Told × Shst)
def Oc.dat : Oc → PyData
  | .error r => .tuple [.str r.word, .int r.val]
  | .ok t => .tuple [.str "told", t.1.dat]
def Oc.st (st : Shst) : Oc → Shst
  | .error _ => st
  | .ok t => t.2
def layF (room : Int) (st : Shst) (g : Thing) : Oc := match signsT 1 16 g with
  | none => .error (.wrong 0)
  | some ns => match getS st (sealN ns) with
    | none => if (st.length : Int) ≥ room then .error (.room room) else .ok (.int (sealN ns), setS st (sealN ns) (1, some ns))
    | some x => .ok (.int (sealN ns), setS st (sealN ns) (x.1 + 1, some ns))
/-- a seal that is kept -/
def keptF (st : Shst) (s : Thing) (k : Int → Int × Option (List Int) → Oc) : Oc := match sealT s with
  | none => .error (.wrong 0)
  | some n => match getS st n with
    | none => .error (.piece n)
    | some x => k n x
def holdF (st : Shst) (s : Thing) : Oc := keptF st s fun n x => .ok (.non, setS st n (x.1 + 1, x.2))
def goF (st : Shst) (s : Thing) : Oc := keptF st s fun n x => if x.1 - 1 > 0 then .ok (.bl false, setS st n (x.1 - 1, x.2)) else .ok (.bl true, delS st n)
def kept2F (st : Shst) (s g : Thing) (lo : Int) (k : Int → Int × Option (List Int) → List Int → Oc) : Oc := match sealT s with
  | none => .error (.wrong 0)
  | some n => match signsT lo 16 g with
    | none => .error (.wrong 1)
    | some ns => match getS st n with
      | none => .error (.piece n)
      | some x => k n x ns
def harmF (st : Shst) (s g : Thing) : Oc := kept2F st s g 0 fun n x ns => .ok (.non, setS st n (x.1, some ns))
def loseF (st : Shst) (s : Thing) : Oc := keptF st s fun n x => .ok (.non, setS st n (x.1, none))
def healF (st : Shst) (s g : Thing) : Oc := kept2F st s g 1 fun n x ns => if sealN ns ≠ n then .error (.unlike n) else .ok (.non, setS st n (x.1, some ns))
def heldF (st : Shst) (s : Thing) : Oc := keptF st s fun _ x => .ok (.int x.1, st)
def isF (st : Shst) (s : Thing) : Oc := keptF st s fun n x => .ok (.bl (soundB n x.2), st)
def readF (st : Shst) (s : Thing) : Oc := keptF st s fun n x => if soundB n x.2 then .ok (.lst (x.2.getD []), st) else .error (.broken n)
def deedF (room : Int) (st : Shst) (way : Int) (s g : Thing) : Oc :=
  if way = 0 then layF room st g else if way = 1 then holdF st s else if way = 2 then goF st s else if way = 3 then harmF st s g else if way = 4 then loseF st s
  else if way = 5 then healF st s g else if way = 6 then heldF st s else if way = 7 then isF st s else readF st s
/-! ### the shelf in memory -/
abbrev Eb := Int × Int × Option (Addr × List Int)
def absE (e : Eb) : Ent3 := (e.1, e.2.1, e.2.2.map (·.2))
def bodV : Option (Addr × List Int) → V
  | none => .non
  | some q => .ref q.1
def cnts (es : List Eb) : List (Key × V) := es.map fun e => (Sum.inl e.1, .int e.2.1)
def bods (es : List Eb) : List (Key × V) := es.map fun e => (Sum.inl e.1, bodV e.2.2)
def insS (dx c b : Addr) (C : Addr) (room : Int) : HO := .ins C dx [("room", .int room), ("counts", .ref c), ("bodies", .ref b)]
def bodR (es : List Eb) : Res := ⟨fun F l => l = [] ∧ ∀ e ∈ es, ∀ q, e.2.2 = some q → F q.1 = some (.lst (q.2.map V.int)), fun _ _ _ x h => ⟨h.1, fun e he q hq => x _ _ (h.2 e he q hq)⟩⟩
def shelfR (K : PySem.W.Frag) (a : Addr) (room : Int) (st : Shst) : Res := exi fun (z : Addr × Addr × Addr × List Eb) => prp (z.2.2.2.map absE = st ∧ ShOk room st)
  (sp2 (pt a (insS z.1 z.2.1 z.2.2.1 (He.ga K "Shelf") room)) (sp2 (pt z.2.1 (.dK (cnts z.2.2.2))) (sp2 (pt z.2.2.1 (.dK (bods z.2.2.2))) (sp2 (bodR z.2.2.2) (pt z.1 (.own a))))))
theorem shelf_open {K : PySem.W.Frag} {a : Addr} {room : Int} {st : Shst} {Rs : List Res} {H : Hp} (S : M (shelfR K a room st :: Rs) H) : ∃ dx c b es, es.map absE = st ∧ ShOk room st ∧
    M (pt a (insS dx c b (He.ga K "Shelf") room) :: pt c (.dK (cnts es)) :: pt b (.dK (bods es)) :: bodR es :: pt dx (.own a) :: Rs) H := by
  obtain ⟨⟨dx, c, b, es⟩, S⟩ := S.ex
  obtain ⟨⟨h1, h2⟩, S⟩ := S.pr
  have S2 := S.sp
  have S3 := ((S2.perm (.swap _ _ _)).sp.perm (.cons _ (.swap _ _ _)))
  have S4 : M (sp2 (pt b (.dK (bods es))) (sp2 (bodR es) (pt dx (.own a))) :: pt c (.dK (cnts es)) :: pt a (insS dx c b (He.ga K "Shelf") room) :: Rs) H := M.sub (.cons 2 rfl (.cons 0 rfl (.cons 0 rfl (.refl _)))) S3
  have S5 := S4.sp
  have S6 : M (sp2 (bodR es) (pt dx (.own a)) :: pt b (.dK (bods es)) :: pt c (.dK (cnts es)) :: pt a (insS dx c b (He.ga K "Shelf") room) :: Rs) H := S5.perm (.swap _ _ _)
  have S7 := S6.sp
  exact ⟨dx, c, b, es, h1, h2, M.sub (.cons 4 rfl (.cons 3 rfl (.cons 2 rfl (.cons 0 rfl (.cons 0 rfl (.refl _)))))) S7⟩
theorem shelf_close {K : PySem.W.Frag} {a : Addr} {room : Int} {st : Shst} {Rs : List Res} {H : Hp} {dx c b : Addr} {es : List Eb} (h1 : es.map absE = st) (h2 : ShOk room st)
    (S : M (pt a (insS dx c b (He.ga K "Shelf") room) :: pt c (.dK (cnts es)) :: pt b (.dK (bods es)) :: bodR es :: pt dx (.own a) :: Rs) H) : M (shelfR K a room st :: Rs) H := by
  have S1 : M (bodR es :: pt dx (.own a) :: pt b (.dK (bods es)) :: pt c (.dK (cnts es)) :: pt a (insS dx c b (He.ga K "Shelf") room) :: Rs) H := M.sub (.cons 3 rfl (.cons 3 rfl (.cons 2 rfl (.cons 1 rfl (.cons 0 rfl (.refl _)))))) S
  have S2 : M (pt b (.dK (bods es)) :: sp2 (bodR es) (pt dx (.own a)) :: pt c (.dK (cnts es)) :: pt a (insS dx c b (He.ga K "Shelf") room) :: Rs) H := S1.sp'.perm (.swap _ _ _)
  have S3 : M (pt c (.dK (cnts es)) :: sp2 (pt b (.dK (bods es))) (sp2 (bodR es) (pt dx (.own a))) :: pt a (insS dx c b (He.ga K "Shelf") room) :: Rs) H := S2.sp'.perm (.swap _ _ _)
  have S4 : M (pt a (insS dx c b (He.ga K "Shelf") room) :: sp2 (pt c (.dK (cnts es))) (sp2 (pt b (.dK (bods es))) (sp2 (bodR es) (pt dx (.own a)))) :: Rs) H := S3.sp'.perm (.swap _ _ _)
  exact M.ex' (T := fun (z : Addr × Addr × Addr × List Eb) => prp (z.2.2.2.map absE = st ∧ ShOk room st)
    (sp2 (pt a (insS z.1 z.2.1 z.2.2.1 (He.ga K "Shelf") room)) (sp2 (pt z.2.1 (.dK (cnts z.2.2.2))) (sp2 (pt z.2.2.1 (.dK (bods z.2.2.2))) (sp2 (bodR z.2.2.2) (pt z.1 (.own a))))))) (dx, c, b, es) (M.pr' ⟨h1, h2⟩ S4.sp')
/-- entries by seal -/
def getE (es : List Eb) (s : Int) : Option (Int × Option (Addr × List Int)) := (es.find? fun e => decide (e.1 = s)).map (·.2)
def setE (es : List Eb) (s : Int) (x : Int × Option (Addr × List Int)) : List Eb := if (getE es s).isSome then es.map (fun e => if e.1 = s then (s, x) else e) else es ++ [(s, x)]
def delE (es : List Eb) (s : Int) : List Eb := es.filter fun e => decide (e.1 ≠ s)
theorem getE_cons (e : Eb) (r : List Eb) (s : Int) : getE (e :: r) s = if e.1 = s then some e.2 else getE r s := by
  unfold getE
  by_cases h : e.1 = s
  · rw [if_pos h, List.find?_cons_of_pos (by simpa using h)]
    rfl
  · rw [if_neg h, List.find?_cons_of_neg (by simpa using h)]
theorem getE_abs (s : Int) : ∀ es : List Eb, getS (es.map absE) s = (getE es s).map fun x => (x.1, x.2.map (·.2))
  | [] => rfl
  | e :: r => by
    rw [List.map_cons, getS_cons, getE_cons]
    show (if e.1 = s then some (absE e).2 else _) = _
    split
    · rfl
    · exact getE_abs s r
theorem getE_mem {es : List Eb} {s : Int} {x : Int × Option (Addr × List Int)} (h : getE es s = some x) : (s, x) ∈ es := by
  unfold getE at h
  obtain ⟨e, h1, h2⟩ := Option.map_eq_some_iff.mp h
  have h3 := List.find?_some h1
  have h4 := List.mem_of_find?_eq_some h1
  have h5 : e.1 = s := by simpa using h3
  subst h5
  subst h2
  exact h4
theorem val_cnts (s : Int) : ∀ es : List Eb, valV (cnts es) (Sum.inl s) = (getE es s).map fun x => .int x.1
  | [] => rfl
  | e :: r => by
    rw [getE_cons]
    show valV ((Sum.inl e.1, V.int e.2.1) :: cnts r) (Sum.inl s) = _
    by_cases h : e.1 = s
    · rw [if_pos h, valV_pos (by rw [h])]
      rfl
    · rw [if_neg h, valV_neg (fun z => h (Sum.inl.inj z)), val_cnts s r]
theorem val_bods (s : Int) : ∀ es : List Eb, valV (bods es) (Sum.inl s) = (getE es s).map fun x => bodV x.2
  | [] => rfl
  | e :: r => by
    rw [getE_cons]
    show valV ((Sum.inl e.1, bodV e.2.2) :: bods r) (Sum.inl s) = _
    by_cases h : e.1 = s
    · rw [if_pos h, valV_pos (by rw [h])]
      rfl
    · rw [if_neg h, valV_neg (fun z => h (Sum.inl.inj z)), val_bods s r]
theorem any_val {kvs : List (Key × V)} {k : Key} : (kvs.any fun kv => decide (kv.1 = k)) = (valV kvs k).isSome := valV_any k kvs
/-- both dicts put: entries set -/
theorem put_cnts {es : List Eb} {s c : Int} {o : Option (Addr × List Int)} : putK (cnts es) (Sum.inl s) (.int c) = cnts (setE es s (c, ((getE es s).map (·.2)).getD o)) := by
  unfold putK setE
  rw [any_val, val_cnts, Option.isSome_map]
  cases e : getE es s with
  | none =>
    simp [cnts]
  | some x =>
    rw [if_pos (show (some x).isSome = true from rfl), if_pos (show (some x).isSome = true from rfl)]
    unfold cnts
    rw [List.map_map, List.map_map]
    refine List.map_congr_left fun q _ => ?_
    show (if (Sum.inl q.1 : Key) = Sum.inl s then ((Sum.inl q.1 : Key), V.int c) else (Sum.inl q.1, .int q.2.1)) = _
    by_cases h : q.1 = s
    · rw [if_pos (by rw [h])]
      simp [h]
    · rw [if_neg (fun z => h (Sum.inl.inj z))]
      simp [h]
theorem put_bods {es : List Eb} {s : Int} {o : Option (Addr × List Int)} (h : (getE es s).isSome = true) : putK (bods es) (Sum.inl s) (bodV o) = bods (setE es s (((getE es s).map (·.1)).getD 0, o)) := by
  unfold putK setE
  rw [any_val, val_bods, Option.isSome_map, h, if_pos rfl, if_pos rfl]
  unfold bods
  rw [List.map_map, List.map_map]
  refine List.map_congr_left fun q _ => ?_
  show (if (Sum.inl q.1 : Key) = Sum.inl s then ((Sum.inl q.1 : Key), bodV o) else (Sum.inl q.1, bodV q.2.2)) = _
  by_cases h : q.1 = s
  · rw [if_pos (by rw [h])]
    simp [h]
  · rw [if_neg (fun z => h (Sum.inl.inj z))]
    simp [h]
theorem put_bods_new {es : List Eb} {s c : Int} {o : Option (Addr × List Int)} (h : getE es s = none) : putK (bods es) (Sum.inl s) (bodV o) = bods (setE es s (c, o)) := by
  unfold putK setE
  rw [any_val, val_bods, h]
  simp [bods]
theorem abs_setE {es : List Eb} {s c : Int} {o : Option (Addr × List Int)} : (setE es s (c, o)).map absE = setS (es.map absE) s (c, o.map (·.2)) := by
  unfold setE setS
  rw [getE_abs, Option.isSome_map]
  split
  · rw [List.map_map, List.map_map]
    refine List.map_congr_left fun q _ => ?_
    show absE (if q.1 = s then (s, (c, o)) else q) = if (absE q).1 = s then _ else _
    show absE (if q.1 = s then (s, (c, o)) else q) = if q.1 = s then _ else _
    split <;> rfl
  · rw [List.map_append]
    rfl
theorem drop_cnts (es : List Eb) (s : Int) : dropK (cnts es) (Sum.inl s) = cnts (delE es s) := by
  unfold dropK cnts delE
  rw [List.filter_map]
  congr 1
  refine List.filter_congr fun q _ => ?_
  show decide ((Sum.inl q.1 : Key) ≠ Sum.inl s) = decide (q.1 ≠ s)
  simp
theorem drop_bods (es : List Eb) (s : Int) : dropK (bods es) (Sum.inl s) = bods (delE es s) := by
  unfold dropK bods delE
  rw [List.filter_map]
  congr 1
  refine List.filter_congr fun q _ => ?_
  show decide ((Sum.inl q.1 : Key) ≠ Sum.inl s) = decide (q.1 ≠ s)
  simp
theorem abs_delE (es : List Eb) (s : Int) : (delE es s).map absE = delS (es.map absE) s := by
  unfold delE delS
  rw [List.filter_map]
  rfl
theorem bodR_del {es : List Eb} {s : Int} {Rs : List Res} {H : Hp} (S : M (bodR es :: Rs) H) : M (bodR (delE es s) :: Rs) H := by
  obtain ⟨F, L, ⟨l1, l2, rfl, ⟨rfl, e⟩, b⟩, m⟩ := S
  exact ⟨F, l2, ⟨[], l2, rfl, ⟨rfl, fun q hq => e q (List.mem_filter.mp hq).1⟩, b⟩, m⟩
theorem mem_setE {es : List Eb} {s : Int} {x : Int × Option (Addr × List Int)} {e : Eb} (h : e ∈ setE es s x) : e ∈ es ∨ e = (s, x) := by
  unfold setE at h
  split at h
  · obtain ⟨e2, h1, rfl⟩ := List.mem_map.mp h
    split
    · exact .inr rfl
    · exact .inl h1
  · rcases List.mem_append.mp h with h | h
    · exact .inl h
    · exact .inr (List.mem_singleton.mp h)
theorem bodR_new {es : List Eb} {s c : Int} {p : Addr} {ns : List Int} {Rs : List Res} {H : Hp} (S : M (pt p (.lst (ns.map V.int)) :: bodR es :: Rs) H) : M (bodR (setE es s (c, some (p, ns))) :: Rs) H := by
  obtain ⟨F, L, ⟨l1, l2, rfl, ⟨rfl, e0⟩, l3, l4, rfl, ⟨rfl, e⟩, b⟩, m⟩ := S.fix
  refine ⟨F, l4, ⟨[], l4, rfl, ⟨rfl, fun q hq z hz => ?_⟩, b⟩, m⟩
  rcases mem_setE hq with h | rfl
  · exact e q h z hz
  · cases hz
    exact e0
theorem bodR_none {es : List Eb} {s c : Int} {Rs : List Res} {H : Hp} (S : M (bodR es :: Rs) H) : M (bodR (setE es s (c, none)) :: Rs) H := by
  obtain ⟨F, L, ⟨l3, l4, rfl, ⟨rfl, e⟩, b⟩, m⟩ := S
  refine ⟨F, l4, ⟨[], l4, rfl, ⟨rfl, fun q hq z hz => ?_⟩, b⟩, m⟩
  rcases mem_setE hq with h | rfl
  · exact e q h z hz
  · cases hz
theorem bodR_cnt {es : List Eb} {s c : Int} {o : Option (Addr × List Int)} {Rs : List Res} {H : Hp} (h : ∃ c', getE es s = some (c', o)) (S : M (bodR es :: Rs) H) : M (bodR (setE es s (c, o)) :: Rs) H := by
  obtain ⟨F, L, ⟨l3, l4, rfl, ⟨rfl, e⟩, b⟩, m⟩ := S
  refine ⟨F, l4, ⟨[], l4, rfl, ⟨rfl, fun q hq z hz => ?_⟩, b⟩, m⟩
  rcases mem_setE hq with h2 | rfl
  · exact e q h2 z hz
  · obtain ⟨c', h⟩ := h
    exact e _ (getE_mem h) z hz
theorem bodR_at {es : List Eb} {s c : Int} {p : Addr} {ns : List Int} {Rs : List Res} {H : Hp} (S : M Rs H) (i : Nat) (e : Rs[i]? = some (bodR es)) (h : getE es s = some (c, some (p, ns))) : H p = some (.lst (ns.map V.int)) := by
  obtain ⟨F, L, ⟨l3, l4, rfl, ⟨_, e⟩, b⟩, m⟩ := S.at i e
  exact m.ex _ _ (e _ (getE_mem h) _ rfl)
theorem cnts_len (es : List Eb) : (cnts es).length = es.length := by simp [cnts]
theorem bods_len (es : List Eb) : (bods es).length = es.length := by simp [bods]
theorem cnts_keys (es : List Eb) : (cnts es).map (·.1) = (keysS (es.map absE)).map Sum.inl := by
  unfold cnts keysS
  rw [List.map_map, List.map_map, List.map_map]
  rfl
/-- the shelf's door is there -/
theorem shelf_ins {K : PySem.W.Frag} {a : Addr} {room : Int} {st : Shst} {Rs : List Res} {H : Hp} (S : M Rs H) (i : Nat) (e : Rs[i]? = some (shelfR K a room st)) : ∃ dx c b, H a = some (insS dx c b (He.ga K "Shelf") room) := by
  obtain ⟨dx, c, b, es, _, _, S⟩ := shelf_open (S.at i e)
  exact ⟨dx, c, b, S.got 0 rfl⟩
theorem v_shelf {K : PySem.W.Frag} {a : Addr} {room : Int} {st : Shst} {Rs : List Res} {H : Hp} {W : WX} {m : Str} {sp : Sp} {dvs : List V} {t : TA} {σ : L2.St} {Q : VK} (S : M Rs H) (i : Nat) (e : Rs[i]? = some (shelfR K a room st))
    (k : t σ H fun vs H2 => sp (.ref a :: (vs ++ dvs)) H2 Q (WE W σ)) (hm : (m == "room") = false ∧ (m == "counts") = false ∧ (m == "bodies") = false := by decide) : MethK W (He.ga K "Shelf") m sp dvs t σ Q (.ref a) H := by
  obtain ⟨dx, c, b, h⟩ := shelf_ins S i e
  exact v_meth h (by simp [List.lookup, hm]) k
/-! ### what the shelf's methods promise -/
/-- refused -/
def RefX (K : PySem.W.Frag) (r : Rf) (Rs : List Res) (E : XK) : Prop := ∀ d H', M (pt d (.xd [(r.fld, .int r.val)]) :: Rs) H' → E (.ref (He.ga K r.cls)) (some d) H'
/-- the two ways out of a method -/
def OutX (K : PySem.W.Frag) (a : Addr) (room : Int) (st : Shst) (Rs : List Res) (o : Oc) (Q : VK) (E : XK) : Prop := match o with
  | .error r => RefX K r (shelfR K a room st :: Rs) E
  | .ok (.non, st') => ∀ H', M (shelfR K a room st' :: Rs) H' → Q .non H'
  | .ok (.bl b, st') => ∀ H', M (shelfR K a room st' :: Rs) H' → Q (.bl b) H'
  | .ok (.int n, st') => ∀ H', M (shelfR K a room st' :: Rs) H' → Q (.int n) H'
  | .ok (.lst ns, st') => ∀ p H', M (pt p (.lst (ns.map V.int)) :: shelfR K a room st' :: Rs) H' → Q (.ref p) H'
/-- a thing that the rest of the memory holds -/
structure ThE (K : PySem.W.Frag) (Rs : List Res) (v : V) (th : Thing) : Prop where
  at_ : Ent Rs (fun H => Thg K H v th)
  it : Ent Rs (fun H => Items K H th)
theorem ThE.tl {K : PySem.W.Frag} {Rs : List Res} {R : Res} {v : V} {th : Thing} (h : ThE K Rs v th) : ThE K (R :: Rs) v th := ⟨h.at_.tl, h.it.tl⟩
theorem ThE.int (K : PySem.W.Frag) (Rs : List Res) (n : Int) : ThE K Rs (.int n) (.int n) := ⟨fun _ _ => .int n, fun _ _ => trivial⟩
def spS0 (K : PySem.W.Frag) (f : Int → Shst → Oc) : Sp := fun vs H Q E => ∃ (Rs : List Res) (a : Addr) (room : Int) (st : Shst), vs = [.ref a] ∧ M (shelfR K a room st :: Rs) H ∧ OutX K a room st Rs (f room st) Q E
def spS1 (K : PySem.W.Frag) (f : Int → Shst → Thing → Oc) : Sp := fun vs H Q E => ∃ (Rs : List Res) (a : Addr) (room : Int) (st : Shst) (v : V) (th : Thing), vs = [.ref a, v] ∧ M (shelfR K a room st :: Rs) H ∧ ThE K Rs v th ∧ OutX K a room st Rs (f room st th) Q E
def spS2 (K : PySem.W.Frag) (f : Int → Shst → Thing → Thing → Oc) : Sp := fun vs H Q E => ∃ (Rs : List Res) (a : Addr) (room : Int) (st : Shst) (v u : V) (th tu : Thing), vs = [.ref a, v, u] ∧ M (shelfR K a room st :: Rs) H ∧ ThE K Rs v th ∧ ThE K Rs u tu ∧ OutX K a room st Rs (f room st th tu) Q E
theorem lenS0 {K : PySem.W.Frag} {f : Int → Shst → Oc} (vs : List V) (H : Hp) (Q : VK) (E : XK) (h : spS0 K f vs H Q E) : vs.length = 1 := by
  obtain ⟨Rs, a, room, st, rfl, _⟩ := h
  rfl
theorem lenS1 {K : PySem.W.Frag} {f : Int → Shst → Thing → Oc} (vs : List V) (H : Hp) (Q : VK) (E : XK) (h : spS1 K f vs H Q E) : vs.length = 2 := by
  obtain ⟨Rs, a, room, st, v, th, rfl, _⟩ := h
  rfl
theorem lenS2 {K : PySem.W.Frag} {f : Int → Shst → Thing → Thing → Oc} (vs : List V) (H : Hp) (Q : VK) (E : XK) (h : spS2 K f vs H Q E) : vs.length = 3 := by
  obtain ⟨Rs, a, room, st, v, u, th, tu, rfl, _⟩ := h
  rfl
def sp_Shelf_lay (K : PySem.W.Frag) : Sp := spS1 K layF
def sp_Shelf_hold (K : PySem.W.Frag) : Sp := spS1 K fun _ => holdF
def sp_Shelf_let_go (K : PySem.W.Frag) : Sp := spS1 K fun _ => goF
def sp_Shelf_harm (K : PySem.W.Frag) : Sp := spS2 K fun _ => harmF
def sp_Shelf_lose (K : PySem.W.Frag) : Sp := spS1 K fun _ => loseF
def sp_Shelf_heal (K : PySem.W.Frag) : Sp := spS2 K fun _ => healF
def sp_Shelf_held (K : PySem.W.Frag) : Sp := spS1 K fun _ => heldF
def sp_Shelf_is_sound (K : PySem.W.Frag) : Sp := spS1 K fun _ => isF
def sp_Shelf_read (K : PySem.W.Frag) : Sp := spS1 K fun _ => readF
def len_Shelf_lay {K : PySem.W.Frag} := @lenS1 K layF
def len_Shelf_hold {K : PySem.W.Frag} := @lenS1 K fun _ => holdF
def len_Shelf_let_go {K : PySem.W.Frag} := @lenS1 K fun _ => goF
def len_Shelf_harm {K : PySem.W.Frag} := @lenS2 K fun _ => harmF
def len_Shelf_lose {K : PySem.W.Frag} := @lenS1 K fun _ => loseF
def len_Shelf_heal {K : PySem.W.Frag} := @lenS2 K fun _ => healF
def len_Shelf_held {K : PySem.W.Frag} := @lenS1 K fun _ => heldF
def len_Shelf_is_sound {K : PySem.W.Frag} := @lenS1 K fun _ => isF
def len_Shelf_read {K : PySem.W.Frag} := @lenS1 K fun _ => readF
/-- these leave the memory as it is -/
def sp_Shelf_free (K : PySem.W.Frag) : Sp := fun vs H Q _ => ∃ (a dx c b : Addr) (room : Int) (kvs : List (Key × V)), vs = [.ref a] ∧ H a = some (insS dx c b (He.ga K "Shelf") room) ∧ H c = some (.dK kvs) ∧ Q (.int (room - kvs.length)) H
theorem len_Shelf_free {K : PySem.W.Frag} (vs : List V) (H : Hp) (Q : VK) (E : XK) (h : sp_Shelf_free K vs H Q E) : vs.length = 1 := by
  obtain ⟨a, dx, c, b, room, kvs, rfl, _⟩ := h
  rfl
def sp_Shelf___len__ (K : PySem.W.Frag) : Sp := fun vs H Q _ => ∃ (a dx c b : Addr) (room : Int) (kvs : List (Key × V)), vs = [.ref a] ∧ H a = some (insS dx c b (He.ga K "Shelf") room) ∧ H c = some (.dK kvs) ∧ Q (.int (kvs.length : Nat)) H
theorem len_Shelf___len__ {K : PySem.W.Frag} (vs : List V) (H : Hp) (Q : VK) (E : XK) (h : sp_Shelf___len__ K vs H Q E) : vs.length = 1 := by
  obtain ⟨a, dx, c, b, room, kvs, rfl, _⟩ := h
  rfl
/-- the seal is a number here -/
def sp_Shelf_need_kept (K : PySem.W.Frag) : Sp := fun vs H Q E => ∃ (Rs : List Res) (a dx c b : Addr) (room s : Int) (kvs : List (Key × V)), vs = [.ref a, .int s] ∧ M Rs H ∧ H a = some (insS dx c b (He.ga K "Shelf") room) ∧ H c = some (.dK kvs) ∧
  (valV kvs (Sum.inl s) = none → RefX K (.piece s) Rs E) ∧ ((valV kvs (Sum.inl s)).isSome = true → Q .non H)
theorem len_Shelf_need_kept {K : PySem.W.Frag} (vs : List V) (H : Hp) (Q : VK) (E : XK) (h : sp_Shelf_need_kept K vs H Q E) : vs.length = 2 := by
  obtain ⟨Rs, a, dx, c, b, room, s, kvs, rfl, _⟩ := h
  rfl
/-- the body that the seal has -/
def sp_Shelf_has_sound (K : PySem.W.Frag) : Sp := fun vs H Q _ => ∃ (Rs : List Res) (a dx c b : Addr) (room s : Int) (kvs : List (Key × V)) (o : Option (Addr × List Int)), vs = [.ref a, .int s] ∧ M Rs H ∧ H a = some (insS dx c b (He.ga K "Shelf") room) ∧ H b = some (.dK kvs) ∧
  valV kvs (Sum.inl s) = some (bodV o) ∧ (∀ q, o = some q → Ent Rs (fun H => H q.1 = some (.lst (q.2.map V.int))) ∧ Signs 0 16 q.2) ∧ ∀ H', M Rs H' → Q (.bl (soundB s (o.map (·.2)))) H'
theorem len_Shelf_has_sound {K : PySem.W.Frag} (vs : List V) (H : Hp) (Q : VK) (E : XK) (h : sp_Shelf_has_sound K vs H Q E) : vs.length = 2 := by
  obtain ⟨Rs, a, dx, c, b, room, s, kvs, o, rfl, _⟩ := h
  rfl
def sp_Shelf_seals (K : PySem.W.Frag) : Sp := fun vs H Q _ => ∃ (Rs : List Res) (a : Addr) (room : Int) (st : Shst), vs = [.ref a] ∧ M (shelfR K a room st :: Rs) H ∧ st.length < 64 ∧ ∀ p H', M (pt p (.lst ((srt (keysS st)).map V.int)) :: shelfR K a room st :: Rs) H' → Q (.ref p) H'
theorem len_Shelf_seals {K : PySem.W.Frag} (vs : List V) (H : Hp) (Q : VK) (E : XK) (h : sp_Shelf_seals K vs H Q E) : vs.length = 1 := by
  obtain ⟨Rs, a, room, st, rfl, _⟩ := h
  rfl
/-- not whole, rising -/
def badS (st : Shst) : List Int := (srt (keysS st)).filter fun s => !soundB s ((getS st s).bind (·.2))
def sp_Shelf_broken (K : PySem.W.Frag) : Sp := fun vs H Q _ => ∃ (Rs : List Res) (a : Addr) (room : Int) (st : Shst), vs = [.ref a] ∧ M (shelfR K a room st :: Rs) H ∧ st.length < 64 ∧ ∀ p H', M (pt p (.lst ((badS st).map V.int)) :: shelfR K a room st :: Rs) H' → Q (.ref p) H'
theorem len_Shelf_broken {K : PySem.W.Frag} (vs : List V) (H : Hp) (Q : VK) (E : XK) (h : sp_Shelf_broken K vs H Q E) : vs.length = 1 := by
  obtain ⟨Rs, a, room, st, rfl, _⟩ := h
  rfl
/-- Shelf(room) -/
def roomT : Thing → Option Int
  | .int n => if 1 ≤ n ∧ n ≤ 400 then some n else none
  | _ => none
def sp_is_room (K : PySem.W.Frag) : Sp := fun vs H Q _ => ∃ (v : V) (th : Thing), vs = [v] ∧ Thg K H v th ∧ Q (.bl (roomT th).isSome) H
theorem len_is_room {K : PySem.W.Frag} (vs : List V) (H : Hp) (Q : VK) (E : XK) (h : sp_is_room K vs H Q E) : vs.length = 1 := by
  obtain ⟨v, th, rfl, _⟩ := h
  rfl
def sp_Shelf___init__ (K : PySem.W.Frag) : Sp := fun vs H Q E => ∃ (Rs : List Res) (a dx : Addr) (v : V) (th : Thing), vs = [.ref a, v] ∧ M (pt a (.ins (He.ga K "Shelf") dx []) :: pt dx (.own a) :: Rs) H ∧ ThE K Rs v th ∧
  (roomT th = none → RefX K (.wrong 0) Rs E) ∧ ∀ room, roomT th = some room → ∀ H', M (shelfR K a room [] :: Rs) H' → Q .non H'
theorem len_Shelf___init__ {K : PySem.W.Frag} (vs : List V) (H : Hp) (Q : VK) (E : XK) (h : sp_Shelf___init__ K vs H Q E) : vs.length = 2 := by
  obtain ⟨Rs, a, dx, v, th, rfl, _⟩ := h
  rfl
structure TxC (K : PySem.W.Frag) : Prop where
  cl_Shelf : Cls K (He.ga K "Shelf")
  na_Shelf_room : NoAttr K (He.ga K "Shelf") "room"
  na_Shelf_counts : NoAttr K (He.ga K "Shelf") "counts"
  na_Shelf_bodies : NoAttr K (He.ga K "Shelf") "bodies"
  xc_Wrong : ExcC K (He.ga K "Wrong")
  xn_Wrong_at : chN K "Wrong" "at" = true
  xm_Wrong_StoreError : PySem.W.exmOne K (.ref (He.ga K "Wrong")) (.ref (He.ga K "StoreError")) = some true
  xm_Wrong_Missing : PySem.W.exmOne K (.ref (He.ga K "Wrong")) (.ref (He.ga K "Missing")) = some false
  xm_Wrong_Halted : PySem.W.exmOne K (.ref (He.ga K "Wrong")) (.ref (He.ga K "Halted")) = some false
  xk_Wrong_Wrong : PySem.W.kitOne K (.ref (He.ga K "Wrong")) (.ref (He.ga K "Wrong")) = some true
  xk_Wrong_NoRoom : PySem.W.kitOne K (.ref (He.ga K "Wrong")) (.ref (He.ga K "NoRoom")) = some false
  xk_Wrong_NoPiece : PySem.W.kitOne K (.ref (He.ga K "Wrong")) (.ref (He.ga K "NoPiece")) = some false
  xk_Wrong_Unlike : PySem.W.kitOne K (.ref (He.ga K "Wrong")) (.ref (He.ga K "Unlike")) = some false
  xk_Wrong_Broken : PySem.W.kitOne K (.ref (He.ga K "Wrong")) (.ref (He.ga K "Broken")) = some false
  xc_NoRoom : ExcC K (He.ga K "NoRoom")
  xn_NoRoom_room : chN K "NoRoom" "room" = true
  xm_NoRoom_StoreError : PySem.W.exmOne K (.ref (He.ga K "NoRoom")) (.ref (He.ga K "StoreError")) = some false
  xm_NoRoom_Missing : PySem.W.exmOne K (.ref (He.ga K "NoRoom")) (.ref (He.ga K "Missing")) = some false
  xm_NoRoom_Halted : PySem.W.exmOne K (.ref (He.ga K "NoRoom")) (.ref (He.ga K "Halted")) = some true
  xk_NoRoom_Wrong : PySem.W.kitOne K (.ref (He.ga K "NoRoom")) (.ref (He.ga K "Wrong")) = some false
  xk_NoRoom_NoRoom : PySem.W.kitOne K (.ref (He.ga K "NoRoom")) (.ref (He.ga K "NoRoom")) = some true
  xk_NoRoom_NoPiece : PySem.W.kitOne K (.ref (He.ga K "NoRoom")) (.ref (He.ga K "NoPiece")) = some false
  xk_NoRoom_Unlike : PySem.W.kitOne K (.ref (He.ga K "NoRoom")) (.ref (He.ga K "Unlike")) = some false
  xk_NoRoom_Broken : PySem.W.kitOne K (.ref (He.ga K "NoRoom")) (.ref (He.ga K "Broken")) = some false
  xc_NoPiece : ExcC K (He.ga K "NoPiece")
  xn_NoPiece_seal : chN K "NoPiece" "seal" = true
  xm_NoPiece_StoreError : PySem.W.exmOne K (.ref (He.ga K "NoPiece")) (.ref (He.ga K "StoreError")) = some false
  xm_NoPiece_Missing : PySem.W.exmOne K (.ref (He.ga K "NoPiece")) (.ref (He.ga K "Missing")) = some true
  xm_NoPiece_Halted : PySem.W.exmOne K (.ref (He.ga K "NoPiece")) (.ref (He.ga K "Halted")) = some false
  xk_NoPiece_Wrong : PySem.W.kitOne K (.ref (He.ga K "NoPiece")) (.ref (He.ga K "Wrong")) = some false
  xk_NoPiece_NoRoom : PySem.W.kitOne K (.ref (He.ga K "NoPiece")) (.ref (He.ga K "NoRoom")) = some false
  xk_NoPiece_NoPiece : PySem.W.kitOne K (.ref (He.ga K "NoPiece")) (.ref (He.ga K "NoPiece")) = some true
  xk_NoPiece_Unlike : PySem.W.kitOne K (.ref (He.ga K "NoPiece")) (.ref (He.ga K "Unlike")) = some false
  xk_NoPiece_Broken : PySem.W.kitOne K (.ref (He.ga K "NoPiece")) (.ref (He.ga K "Broken")) = some false
  xc_Unlike : ExcC K (He.ga K "Unlike")
  xn_Unlike_seal : chN K "Unlike" "seal" = true
  xm_Unlike_StoreError : PySem.W.exmOne K (.ref (He.ga K "Unlike")) (.ref (He.ga K "StoreError")) = some true
  xm_Unlike_Missing : PySem.W.exmOne K (.ref (He.ga K "Unlike")) (.ref (He.ga K "Missing")) = some false
  xm_Unlike_Halted : PySem.W.exmOne K (.ref (He.ga K "Unlike")) (.ref (He.ga K "Halted")) = some false
  xk_Unlike_Wrong : PySem.W.kitOne K (.ref (He.ga K "Unlike")) (.ref (He.ga K "Wrong")) = some false
  xk_Unlike_NoRoom : PySem.W.kitOne K (.ref (He.ga K "Unlike")) (.ref (He.ga K "NoRoom")) = some false
  xk_Unlike_NoPiece : PySem.W.kitOne K (.ref (He.ga K "Unlike")) (.ref (He.ga K "NoPiece")) = some false
  xk_Unlike_Unlike : PySem.W.kitOne K (.ref (He.ga K "Unlike")) (.ref (He.ga K "Unlike")) = some true
  xk_Unlike_Broken : PySem.W.kitOne K (.ref (He.ga K "Unlike")) (.ref (He.ga K "Broken")) = some false
  xc_Broken : ExcC K (He.ga K "Broken")
  xn_Broken_seal : chN K "Broken" "seal" = true
  xm_Broken_StoreError : PySem.W.exmOne K (.ref (He.ga K "Broken")) (.ref (He.ga K "StoreError")) = some false
  xm_Broken_Missing : PySem.W.exmOne K (.ref (He.ga K "Broken")) (.ref (He.ga K "Missing")) = some false
  xm_Broken_Halted : PySem.W.exmOne K (.ref (He.ga K "Broken")) (.ref (He.ga K "Halted")) = some true
  xk_Broken_Wrong : PySem.W.kitOne K (.ref (He.ga K "Broken")) (.ref (He.ga K "Wrong")) = some false
  xk_Broken_NoRoom : PySem.W.kitOne K (.ref (He.ga K "Broken")) (.ref (He.ga K "NoRoom")) = some false
  xk_Broken_NoPiece : PySem.W.kitOne K (.ref (He.ga K "Broken")) (.ref (He.ga K "NoPiece")) = some false
  xk_Broken_Unlike : PySem.W.kitOne K (.ref (He.ga K "Broken")) (.ref (He.ga K "Unlike")) = some false
  xk_Broken_Broken : PySem.W.kitOne K (.ref (He.ga K "Broken")) (.ref (He.ga K "Broken")) = some true
abbrev t_Shelf_free (K : PySem.W.Frag) : TS := (tRet (tOp uSub (tFld K (tVar 0) "room") (tCB (uLen K) (tCons (tFld K (tVar 0) "counts") tNil))))
abbrev t_Shelf___len__ (K : PySem.W.Frag) : TS := (tRet (tCB (uLen K) (tCons (tFld K (tVar 0) "counts") tNil)))
abbrev t_Shelf_need_kept_1 (K : PySem.W.Frag) (W : WX) : TS := (tIfS (tTest (tOp (uNotIn K) (tVar 1) (tFld K (tVar 0) "counts"))) (tRz W (He.ga K "NoPiece") "seal" (tVar 1)) tNext)
abbrev t_Shelf_need_kept (K : PySem.W.Frag) (W : WX) : TS := (t_Shelf_need_kept_1 K W)
abbrev t_Shelf_has_sound_1 (K : PySem.W.Frag) : TS := (tSeq (tAsg (tOp rIxK (tFld K (tVar 0) "bodies") (tVar 1)) (gName 2))
  (tRet (tAndV (tOp rNotN (tVar 2) (tC .non)) (tAndV (tOp (uNe K) (tVar 2) (tLst tNil)) (tOp (uEq K) (tCall (sp_seal_of K) [] E0 (tCons (tVar 2) tNil)) (tVar 1))))))
abbrev t_Shelf_has_sound (K : PySem.W.Frag) : TS := (t_Shelf_has_sound_1 K)
theorem pure_Shelf_free {K : PySem.W.Frag} (T : TxC K) (vs : List V) (H : Hp) (Q : VK) (E : XK) (h : sp_Shelf_free K vs H Q E) : t_Shelf_free K { nx := fun _ H' => Q .non H', rt := Q } (L2.start ["self"] vs) H := by
  obtain ⟨a, dx, c, b, room, kvs, rfl, ha, hc, k⟩ := h
  show t_Shelf_free K _ [some (V.ref a)] H
  walk_at "go"
  refine v_fld ha T.cl_Shelf T.na_Shelf_room rfl ?_
  walk_at "go"
  refine v_fld ha T.cl_Shelf T.na_Shelf_counts rfl ?_
  walk_at "go"
  refine v_lenD hc ?_
  walk_at "go"
  exact k
theorem pure_Shelf___len__ {K : PySem.W.Frag} (T : TxC K) (vs : List V) (H : Hp) (Q : VK) (E : XK) (h : sp_Shelf___len__ K vs H Q E) : t_Shelf___len__ K { nx := fun _ H' => Q .non H', rt := Q } (L2.start ["self"] vs) H := by
  obtain ⟨a, dx, c, b, room, kvs, rfl, ha, hc, k⟩ := h
  show t_Shelf___len__ K _ [some (V.ref a)] H
  walk_at "go"
  refine v_fld ha T.cl_Shelf T.na_Shelf_counts rfl ?_
  walk_at "go"
  refine v_lenD hc ?_
  walk_at "go"
  exact k
theorem pure_Shelf_need_kept {K : PySem.W.Frag} (T : TxC K) (vs : List V) (H : Hp) (Q : VK) (E : XK) (h : sp_Shelf_need_kept K vs H Q E) : t_Shelf_need_kept K (WT E) { nx := fun _ H' => Q .non H', rt := Q } (L2.start ["self", "seal"] vs) H := by
  obtain ⟨Rs, a, dx, c, b, room, s, kvs, rfl, S, ha, hc, k1, k2⟩ := h
  show t_Shelf_need_kept K (WT E) _ [some (V.ref a), some (V.int s)] H
  walk_at "go"
  refine v_fld ha T.cl_Shelf T.na_Shelf_counts rfl ?_
  refine v_ninK hc ?_
  cases e : valV kvs (Sum.inl s) with
  | none =>
    dsimp only [Option.isSome]
    walk_at "go"
    exact v_rz S fun d H' S' => k1 e d H' S'
  | some v =>
    dsimp only [Option.isSome]
    walk_at "go"
    exact k2 (by rw [e]; rfl)
theorem pure_Shelf_has_sound {K : PySem.W.Frag} (T : TxC K) (vs : List V) (H : Hp) (Q : VK) (E : XK) (h : sp_Shelf_has_sound K vs H Q E) : t_Shelf_has_sound K { nx := fun _ H' => Q .non H', rt := Q } (L2.start ["self", "seal", "body"] vs) H := by
  obtain ⟨Rs, a, dx, c, b, room, s, kvs, o, rfl, S, ha, hb, hv, ho, k⟩ := h
  show t_Shelf_has_sound K _ [some (V.ref a), some (V.int s), none] H
  walk_at "go"
  refine v_fld ha T.cl_Shelf T.na_Shelf_bodies rfl ?_
  walk_at "go"
  refine v_ixK hb hv ?_
  walk_at "go"
  cases o with
  | none =>
    dsimp only [bodV]
    walk_at "go"
    exact k H S
  | some q =>
    obtain ⟨p, ns⟩ := q
    obtain ⟨hp, sg⟩ := ho _ rfl
    refine v_ifN (fun _ => ?_) (fun h => nomatch h)
    walk_at "go"
    refine v_lst S (by simp) fun em H1 S1 => ?_
    refine v_neD (dp_ints (SqL.of (hp H1 S1.tl))) (dp_ints (ns := []) (SqL.of (S1.got 0 rfl))) (shaped_ints _) (shaped_ints _) ?_
    rw [eqv_ints]
    walk_at "go"
    refine v_ifN (fun h => ?_) (fun h => ?_)
    · walk_at "go"
      have sg2 : Signs 1 16 ns := ⟨by cases ns with | nil => exact absurd rfl h | cons _ _ => simp, sg.hi, sg.sg⟩
      refine u_seal_of (SqL.of (hp H1 S1.tl)) sg2 ?_
      walk_at "go"
      have := k H1 S1.tl
      have e2 : soundB s (Option.map (fun x => x.2) (some (p, ns))) = decide (sealN ns = s) := by
        show (!decide (ns = []) && decide (sealN ns = s)) = _
        rw [decide_eq_false h]
        rfl
      rw [e2] at this
      exact this
    · walk_at "go"
      have := k H1 S1.tl
      have e2 : soundB s (Option.map (fun x => x.2) (some (p, ns))) = false := by
        show (!decide (ns = []) && decide (sealN ns = s)) = _
        rw [decide_eq_true h]
        rfl
      rw [e2] at this
      exact this
/-- the shelf, opened, as its methods want it -/
theorem u_need_kept {K : PySem.W.Frag} {Rs : List Res} {H : Hp} {a dx c b : Addr} {room s : Int} {es : List Eb} {Q : VK} {E : XK} (S : M Rs H) (h1 : H a = some (insS dx c b (He.ga K "Shelf") room)) (h2 : H c = some (.dK (cnts es)))
    (k1 : getE es s = none → RefX K (.piece s) Rs E) (k2 : ∀ x, getE es s = some x → Q .non H) : sp_Shelf_need_kept K (.ref a :: ([.int s] ++ [])) H Q E := by
  refine ⟨Rs, a, dx, c, b, room, s, cnts es, rfl, S, h1, h2, fun h => k1 ?_, fun h => ?_⟩
  · rw [val_cnts] at h
    exact Option.map_eq_none_iff.mp h
  · rw [val_cnts, Option.isSome_map] at h
    obtain ⟨x, hx⟩ := Option.isSome_iff_exists.mp h
    exact k2 x hx
theorem sealT_some {th : Thing} {n : Int} (h : sealT th = some n) : th = .int n ∧ (backN n).isSome = true := by
  cases th with
  | int m =>
    simp only [sealT] at h
    split at h
    · cases h
      exact ⟨rfl, by assumption⟩
    · cases h
  | lst xs => cases h
  | oth => cases h
theorem u_is_sealS {K : PySem.W.Frag} {H : Hp} {v : V} {th : Thing} {Q : VK} {E : XK} (h : Thg K H v th) (k1 : sealT th = none → Q (.bl false) H) (k2 : ∀ n, sealT th = some n → v = .int n → Q (.bl true) H) : sp_is_seal K ([v] ++ []) H Q E := by
  refine u_is_seal h ?_
  cases e : sealT th with
  | none => exact k1 e
  | some n =>
    obtain ⟨rfl, _⟩ := sealT_some e
    cases h
    exact k2 n e rfl
theorem u_are_signsS {K : PySem.W.Frag} {H : Hp} {v : V} {th : Thing} {lo hi : Int} {Q : VK} {E : XK} (h : Thg K H v th) (hi' : Items K H th) (k1 : signsT lo hi th = none → Q (.bl false) H)
    (k2 : ∀ p ns, signsT lo hi th = some ns → v = .ref p → th = .lst (ns.map V.int) → lo ≤ ns.length → (ns.length : Int) ≤ hi → (∀ n ∈ ns, 0 ≤ n ∧ n ≤ 999) → Q (.bl true) H) : sp_are_signs K ([v, .int lo, .int hi] ++ []) H Q E := by
  refine ⟨v, th, lo, hi, rfl, h, hi', ?_⟩
  cases e : signsT lo hi th with
  | none => exact k1 e
  | some ns =>
    obtain ⟨rfl, h1, h2, h3⟩ := signsT_ok e
    cases h with
    | lst h => exact k2 _ ns e rfl rfl h1 h2 h3
theorem thg_sq {K : PySem.W.Frag} {H : Hp} {p : Addr} {xs : List V} (h : Thg K H (.ref p) (.lst xs)) : SqL K H p xs := by
  cases h with
  | lst h => exact h
theorem sealN_ok {ns : List Int} (h : Signs 1 16 ns) : (backN (sealN ns)).isSome = true := by
  have key : ∀ ns : List Int, (∀ n ∈ ns, 0 ≤ n ∧ n ≤ 999) → digsI (sealN ns) = ns ∧ 0 ≤ sealN ns := by
    intro ns
    induction ns with
    | nil => exact fun _ => ⟨digsI_no (by decide), by decide⟩
    | cons n r ih =>
      intro hn
      obtain ⟨h1, h2⟩ := ih fun m hm => hn m (List.mem_cons_of_mem _ hm)
      have h3 := hn n List.mem_cons_self
      have e : sealN (n :: r) = sealN r * 1001 + n + 1 := rfl
      refine ⟨?_, by omega⟩
      rw [digsI_pos (by omega), e]
      have e1 : (sealN r * 1001 + n + 1) % 1001 = n + 1 := by omega
      have e2 : (sealN r * 1001 + n + 1) / 1001 = sealN r := by omega
      rw [e1, e2, h1]
      congr 1
      omega
  obtain ⟨h1, _⟩ := key ns h.sg
  unfold backN
  rw [h1, if_neg]
  · rfl
  · have h2 := h.lo
    have h3 := h.hi
    rintro (z | z | z)
    · rw [z] at h2
      simp at h2
    · omega
    · have := h.sg _ z
      omega
theorem mem_abs {es : List Eb} {s c : Int} {o : Option (Addr × List Int)} (h : getE es s = some (c, o)) : (s, c, o.map (·.2)) ∈ es.map absE := List.mem_map.mpr ⟨_, getE_mem h, rfl⟩
/-- the opened shelf -/
abbrev opn (K : PySem.W.Frag) (a dx c b : Addr) (room : Int) (es : List Eb) (Rs : List Res) : List Res := pt a (insS dx c b (He.ga K "Shelf") room) :: pt c (.dK (cnts es)) :: pt b (.dK (bods es)) :: bodR es :: pt dx (.own a) :: Rs
theorem opn_x {K : PySem.W.Frag} {a dx c b : Addr} {room : Int} {es : List Eb} {Rs : List Res} {H : Hp} {R : Res} (ok : ShOk room (es.map absE)) (S : M (R :: opn K a dx c b room es Rs) H) : M (R :: shelfR K a room (es.map absE) :: Rs) H :=
  (shelf_close rfl ok (M.sub (.cons 1 rfl (.cons 1 rfl (.cons 1 rfl (.cons 1 rfl (.cons 1 rfl (.refl _)))))) S)).perm (.swap _ _ _)
/-- what a kept seal comes to -/
theorem out_kept {K : PySem.W.Frag} {a : Addr} {room : Int} {st : Shst} {Rs : List Res} {th : Thing} {kf : Int → Int × Option (List Int) → Oc} {Q : VK} {E : XK} (h : OutX K a room st Rs (keptF st th kf) Q E) :
    (sealT th = none → RefX K (.wrong 0) (shelfR K a room st :: Rs) E) ∧ (∀ n, sealT th = some n → getS st n = none → RefX K (.piece n) (shelfR K a room st :: Rs) E) ∧ ∀ n x, sealT th = some n → getS st n = some x → OutX K a room st Rs (kf n x) Q E := by
  unfold keptF at h
  refine ⟨fun e => ?_, fun n e e2 => ?_, fun n x e e2 => ?_⟩
  · rw [e] at h
    exact h
  · rw [e] at h
    dsimp only at h
    rw [e2] at h
    exact h
  · rw [e] at h
    dsimp only at h
    rw [e2] at h
    exact h
theorem out_kept2 {K : PySem.W.Frag} {a : Addr} {room lo : Int} {st : Shst} {Rs : List Res} {th tg : Thing} {kf : Int → Int × Option (List Int) → List Int → Oc} {Q : VK} {E : XK} (h : OutX K a room st Rs (kept2F st th tg lo kf) Q E) :
    (sealT th = none → RefX K (.wrong 0) (shelfR K a room st :: Rs) E) ∧ (∀ n, sealT th = some n → signsT lo 16 tg = none → RefX K (.wrong 1) (shelfR K a room st :: Rs) E) ∧
    (∀ n ns, sealT th = some n → signsT lo 16 tg = some ns → getS st n = none → RefX K (.piece n) (shelfR K a room st :: Rs) E) ∧ ∀ n ns x, sealT th = some n → signsT lo 16 tg = some ns → getS st n = some x → OutX K a room st Rs (kf n x ns) Q E := by
  unfold kept2F at h
  refine ⟨fun e => ?_, fun n e e2 => ?_, fun n ns e e2 e3 => ?_, fun n ns x e e2 e3 => ?_⟩
  · rw [e] at h
    exact h
  · rw [e] at h
    dsimp only at h
    rw [e2] at h
    exact h
  · rw [e] at h
    dsimp only at h
    rw [e2] at h
    dsimp only at h
    rw [e3] at h
    exact h
  · rw [e] at h
    dsimp only at h
    rw [e2] at h
    dsimp only at h
    rw [e3] at h
    exact h
section
variable {K : PySem.W.Frag} {D : Ends} {W : WX} {rest : TS} {σ : L2.St} {H : Hp} {Rs : List Res} {a : Addr} {room : Int} {st : Shst} {v : V} {th : Thing}
theorem seal_go (h1 : σ[1]? = some (some v)) (S : M (shelfR K a room st :: Rs) H) (hth : ThE K Rs v th) (kw : sealT th = none → RefX K (.wrong 0) (shelfR K a room st :: Rs) (WE W σ)) (kk : ∀ n, v = .int n → sealT th = some n → rest D σ H) :
    tSeq (tIfS (tNot (tB (tCall (sp_is_seal K) [] E0 (tCons (tVar 1) tNil)))) (tRz W (He.ga K "Wrong") "at" (tC (.int 0))) tNext) rest D σ H := by
  refine g_seq (g_if (g_not (g_B (g_call (g_cons (g_var h1 (g_nil ?_)))))))
  refine u_is_sealS (hth.at_ H S.tl) (fun e => ?_) (fun n e ev => ?_)
  · exact g_bl (v_ifNF (g_rz (g_c (v_rz S fun d H' S' => kw e d H' S'))))
  · exact g_bl (v_ifNT (g_next (kk n ev e)))
theorem need_go {n : Int} (h0 : σ[0]? = some (some (.ref a))) (h1 : σ[1]? = some (some (.int n))) (S : M (shelfR K a room st :: Rs) H) (kp : getS st n = none → RefX K (.piece n) (shelfR K a room st :: Rs) (WE W σ))
    (kk : ∀ c o dx cc b es H', es.map absE = st → ShOk room st → getE es n = some (c, o) → getS st n = some (c, o.map (·.2)) → M (opn K a dx cc b room es Rs) H' → rest D σ H') :
    tSeq (tDrop (tMethW W (He.ga K "Shelf") "need_kept" (sp_Shelf_need_kept K) [] (tVar 0) (tCons (tVar 1) tNil))) rest D σ H := by
  obtain ⟨dx, c, b, es, rfl, ok, S1⟩ := shelf_open S
  refine g_seq (g_drop (g_meth (g_var h0 (v_meth (S1.got 0 rfl) rfl (g_cons (g_var h1 (g_nil ?_)))))))
  refine u_need_kept S1 (S1.got 0 rfl) (S1.got 1 rfl) (fun e2 => ?_) (fun x e2 => ?_)
  · exact fun d H' S' => kp (by rw [getE_abs, e2]; rfl) d H' (opn_x ok S')
  · exact kk x.1 x.2 dx c b es H rfl ok e2 (by rw [getE_abs, e2]; rfl) S1
theorem signs_go {lo : Int} {at_ : Int} {u : V} {tu : Thing} (h2 : σ[2]? = some (some u)) (S : M (shelfR K a room st :: Rs) H) (hth : ThE K Rs u tu) (kw : signsT lo 16 tu = none → RefX K (.wrong at_) (shelfR K a room st :: Rs) (WE W σ))
    (kk : ∀ p ns, u = .ref p → tu = .lst (ns.map V.int) → signsT lo 16 tu = some ns → lo ≤ ns.length → (ns.length : Int) ≤ 16 → (∀ n ∈ ns, 0 ≤ n ∧ n ≤ 999) → rest D σ H) :
    tSeq (tIfS (tNot (tB (tCall (sp_are_signs K) [] E0 (tCons (tVar 2) (tCons (tC (.int lo)) (tCons (tC (.int 16)) tNil)))))) (tRz W (He.ga K "Wrong") "at" (tC (.int at_))) tNext) rest D σ H := by
  refine g_seq (g_if (g_not (g_B (g_call (g_cons (g_var h2 (g_cons (g_c (g_cons (g_c (g_nil ?_)))))))))))
  refine u_are_signsS (hth.at_ H S.tl) (hth.it H S.tl) (fun e => ?_) (fun p ns e ev et l1 l2 l3 => ?_)
  · exact g_bl (v_ifNF (g_rz (g_c (v_rz S fun d H' S' => kw e d H' S'))))
  · exact g_bl (v_ifNT (g_next (kk p ns ev et e l1 l2 l3)))
end
theorem uniqE {n : Int} {z : Int × Option (Addr × List Int)} : ∀ {es : List Eb}, (es.map (·.1)).Nodup → getE es n = some z → ∀ q ∈ es, q.1 = n → q.2 = z
  | [], _, h, _, hq, _ => nomatch hq
  | e :: r, hn, h, q, hq, hk => by
    rw [List.map_cons, List.nodup_cons] at hn
    rw [getE_cons] at h
    rcases List.mem_cons.mp hq with rfl | hq
    · rw [if_pos hk] at h
      exact Option.some.inj h
    · by_cases he : e.1 = n
      · exact absurd (List.mem_map.mpr ⟨q, hq, by rw [hk, he]⟩) hn.1
      · rw [if_neg he] at h
        exact uniqE hn.2 h q hq hk
theorem keys_abs (es : List Eb) : keysS (es.map absE) = es.map (·.1) := by
  unfold keysS
  rw [List.map_map]
  rfl
theorem bods_cnt {es : List Eb} {n x y : Int} {o : Option (Addr × List Int)} (hn : (es.map (·.1)).Nodup) (h : getE es n = some (x, o)) : bods (setE es n (y, o)) = bods es := by
  unfold setE
  rw [h]
  show bods (es.map fun e => if e.1 = n then (n, y, o) else e) = bods es
  unfold bods
  rw [List.map_map]
  refine List.map_congr_left fun q hq => ?_
  show ((Sum.inl (if q.1 = n then ((n, y, o) : Eb) else q).1 : Key), bodV (if q.1 = n then ((n, y, o) : Eb) else q).2.2) = _
  by_cases hk : q.1 = n
  · rw [if_pos hk, uniqE hn h q hq hk, hk]
  · rw [if_neg hk]
theorem cnts_bod {es : List Eb} {n x : Int} {o o' : Option (Addr × List Int)} (hn : (es.map (·.1)).Nodup) (h : getE es n = some (x, o)) : cnts (setE es n (x, o')) = cnts es := by
  unfold setE
  rw [h]
  show cnts (es.map fun e => if e.1 = n then (n, x, o') else e) = cnts es
  unfold cnts
  rw [List.map_map]
  refine List.map_congr_left fun q hq => ?_
  show ((Sum.inl (if q.1 = n then ((n, x, o') : Eb) else q).1 : Key), V.int (if q.1 = n then ((n, x, o') : Eb) else q).2.1) = _
  by_cases hk : q.1 = n
  · rw [if_pos hk, uniqE hn h q hq hk, hk]
  · rw [if_neg hk]
/-- the count of a kept seal is put otherwise -/
theorem cnt_put {K : PySem.W.Frag} {a dx c b : Addr} {room n x y : Int} {o : Option (Addr × List Int)} {es : List Eb} {Rs : List Res} {H : Hp} (ok : ShOk room (es.map absE)) (hg : getE es n = some (x, o))
    (S : M (pt a (insS dx c b (He.ga K "Shelf") room) :: pt c (.dK (putK (cnts es) (Sum.inl n) (.int y))) :: pt b (.dK (bods es)) :: bodR es :: pt dx (.own a) :: Rs) H) : M (opn K a dx c b room (setE es n (y, o)) Rs) H := by
  have nd := ok.nd
  rw [keys_abs] at nd
  have e1 : putK (cnts es) (Sum.inl n) (.int y) = cnts (setE es n (y, o)) := by
    rw [put_cnts (o := o), hg]
    rfl
  rw [e1, ← bods_cnt (y := y) nd hg] at S
  have S2 : M (bodR es :: pt a (insS dx c b (He.ga K "Shelf") room) :: pt c (.dK (cnts (setE es n (y, o)))) :: pt b (.dK (bods (setE es n (y, o)))) :: pt dx (.own a) :: Rs) H := M.sub (.cons 3 rfl (.cons 0 rfl (.cons 0 rfl (.cons 0 rfl (.cons 0 rfl (.refl _)))))) S
  exact M.sub (.cons 1 rfl (.cons 1 rfl (.cons 1 rfl (.cons 0 rfl (.cons 0 rfl (.refl _)))))) (bodR_cnt (c := y) ⟨x, hg⟩ S2)
/-- .. its body -/
theorem bod_put {K : PySem.W.Frag} {a dx c b p : Addr} {room n x : Int} {o : Option (Addr × List Int)} {ns : List Int} {es : List Eb} {Rs : List Res} {H : Hp} (ok : ShOk room (es.map absE)) (hg : getE es n = some (x, o))
    (S : M (pt p (.lst (ns.map V.int)) :: pt a (insS dx c b (He.ga K "Shelf") room) :: pt c (.dK (cnts es)) :: pt b (.dK (putK (bods es) (Sum.inl n) (.ref p))) :: bodR es :: pt dx (.own a) :: Rs) H) : M (opn K a dx c b room (setE es n (x, some (p, ns))) Rs) H := by
  have nd := ok.nd
  rw [keys_abs] at nd
  have e1 : putK (bods es) (Sum.inl n) (.ref p) = bods (setE es n (x, some (p, ns))) := by
    have := put_bods (es := es) (s := n) (o := some (p, ns)) (by rw [hg]; rfl)
    rw [hg] at this
    exact this
  rw [e1, ← cnts_bod (o' := some (p, ns)) nd hg] at S
  have S2 : M (pt p (.lst (ns.map V.int)) :: bodR es :: pt a (insS dx c b (He.ga K "Shelf") room) :: pt c (.dK (cnts (setE es n (x, some (p, ns))))) :: pt b (.dK (bods (setE es n (x, some (p, ns))))) :: pt dx (.own a) :: Rs) H := M.sub (.cons 0 rfl (.cons 3 rfl (.cons 0 rfl (.cons 0 rfl (.cons 0 rfl (.cons 0 rfl (.refl _))))))) S
  exact M.sub (.cons 1 rfl (.cons 1 rfl (.cons 1 rfl (.cons 0 rfl (.cons 0 rfl (.refl _)))))) (bodR_new (s := n) (c := x) S2)
theorem bod_none {K : PySem.W.Frag} {a dx c b : Addr} {room n x : Int} {o : Option (Addr × List Int)} {es : List Eb} {Rs : List Res} {H : Hp} (ok : ShOk room (es.map absE)) (hg : getE es n = some (x, o))
    (S : M (pt a (insS dx c b (He.ga K "Shelf") room) :: pt c (.dK (cnts es)) :: pt b (.dK (putK (bods es) (Sum.inl n) .non)) :: bodR es :: pt dx (.own a) :: Rs) H) : M (opn K a dx c b room (setE es n (x, none)) Rs) H := by
  have nd := ok.nd
  rw [keys_abs] at nd
  have e1 : putK (bods es) (Sum.inl n) .non = bods (setE es n (x, none)) := by
    have := put_bods (es := es) (s := n) (o := none) (by rw [hg]; rfl)
    rw [hg] at this
    exact this
  rw [e1, ← cnts_bod (o' := none) nd hg] at S
  have S2 : M (bodR es :: pt a (insS dx c b (He.ga K "Shelf") room) :: pt c (.dK (cnts (setE es n (x, none)))) :: pt b (.dK (bods (setE es n (x, none)))) :: pt dx (.own a) :: Rs) H := M.sub (.cons 3 rfl (.cons 0 rfl (.cons 0 rfl (.cons 0 rfl (.cons 0 rfl (.refl _)))))) S
  exact M.sub (.cons 1 rfl (.cons 1 rfl (.cons 1 rfl (.cons 0 rfl (.cons 0 rfl (.refl _)))))) (bodR_none (s := n) (c := x) S2)
theorem closeS {K : PySem.W.Frag} {a dx c b : Addr} {room n x : Int} {o : Option (Addr × List Int)} {es : List Eb} {Rs : List Res} {H : Hp} (ok : ShOk room (setS (es.map absE) n (x, o.map (·.2)))) (S : M (opn K a dx c b room (setE es n (x, o)) Rs) H) :
    M (shelfR K a room (setS (es.map absE) n (x, o.map (·.2))) :: Rs) H := shelf_close abs_setE ok S
theorem bd_of {room : Int} {es : List Eb} {n x : Int} {o : Option (Addr × List Int)} (ok : ShOk room (es.map absE)) (hg : getE es n = some (x, o)) : (∀ ns, o.map (·.2) = some ns → ns.length ≤ 16 ∧ ∀ n ∈ ns, 0 ≤ n ∧ n ≤ 999) ∧ 1 ≤ x ∧ (backN n).isSome = true :=
  ⟨fun ns h => ok.bd _ (mem_abs hg) ns h, ok.ct _ (mem_abs hg), ok.sl _ (mem_abs hg)⟩
theorem get_of {es : List Eb} {n x : Int} {o : Option (Addr × List Int)} (hg : getE es n = some (x, o)) : getS (es.map absE) n = some (x, o.map (·.2)) := by
  rw [getE_abs, hg]
  rfl
theorem lenE {room : Int} {es : List Eb} (ok : ShOk room (es.map absE)) : es.length ≤ 400 := by
  have h1 := ok.le
  have h2 := ok.r2
  rw [List.length_map] at h1
  omega
theorem getE_map {n : Int} {z : Int × Option (Addr × List Int)} : ∀ es : List Eb, (getE es n).isSome = true → getE (es.map fun e => if e.1 = n then (n, z) else e) n = some z
  | [], h => by cases h
  | q :: r, h => by
    rw [List.map_cons, getE_cons]
    rw [getE_cons] at h
    by_cases hk : q.1 = n
    · rw [if_pos hk, if_pos rfl]
    · rw [if_neg hk] at h
      rw [if_neg hk, if_neg hk]
      exact getE_map r h
theorem getE_app {n : Int} {z : Int × Option (Addr × List Int)} : ∀ es : List Eb, getE es n = none → getE (es ++ [(n, z)]) n = some z
  | [], _ => by
    rw [List.nil_append, getE_cons, if_pos rfl]
  | q :: r, h => by
    rw [List.cons_append, getE_cons]
    rw [getE_cons] at h
    by_cases hk : q.1 = n
    · rw [if_pos hk] at h
      cases h
    · rw [if_neg hk] at h
      rw [if_neg hk]
      exact getE_app r h
theorem getE_set {es : List Eb} {n : Int} {z : Int × Option (Addr × List Int)} : getE (setE es n z) n = some z := by
  unfold setE
  cases h : getE es n with
  | none => exact getE_app es h
  | some x => exact getE_map es (by rw [h]; rfl)
theorem setE_set {es : List Eb} {n : Int} {z w : Int × Option (Addr × List Int)} : setE (setE es n z) n w = setE es n w := by
  rw [setE, getE_set]
  show (setE es n z).map _ = _
  unfold setE
  cases h : getE es n with
  | none =>
    show (es ++ [(n, z)]).map _ = es ++ [(n, w)]
    rw [List.map_append]
    have : es.map (fun e : Eb => if e.1 = n then (n, w) else e) = es := by
      have key : ∀ l : List Eb, getE l n = none → l.map (fun e : Eb => if e.1 = n then (n, w) else e) = l := by
        intro l
        induction l with
        | nil => exact fun _ => rfl
        | cons q r ih =>
          intro h
          rw [getE_cons] at h
          by_cases hk : q.1 = n
          · rw [if_pos hk] at h
            cases h
          · rw [if_neg hk] at h
            rw [List.map_cons, if_neg hk, ih h]
      exact key es h
    rw [this]
    simp
  | some x =>
    show ((es.map fun e : Eb => if e.1 = n then (n, z) else e).map fun e : Eb => if e.1 = n then (n, w) else e) = es.map fun e : Eb => if e.1 = n then (n, w) else e
    rw [List.map_map]
    refine List.map_congr_left fun q _ => ?_
    show (if (if q.1 = n then ((n, z) : Eb) else q).1 = n then ((n, w) : Eb) else (if q.1 = n then ((n, z) : Eb) else q)) = _
    by_cases hk : q.1 = n
    · rw [if_pos hk, if_pos rfl, if_pos hk]
    · rw [if_neg hk, if_neg hk]
theorem len_setE {es : List Eb} {s : Int} {x : Int × Option (Addr × List Int)} : (setE es s x).length ≤ es.length + 1 := by
  unfold setE
  split
  · rw [List.length_map]
    omega
  · rw [List.length_append]
    simp
abbrev t_Shelf_hold_3 (K : PySem.W.Frag) (W : WX) : TS := (tSeq (tDrop (tMethW W (He.ga K "Shelf") "need_kept" (sp_Shelf_need_kept K) [] (tVar 0) (tCons (tVar 1) tNil)))
  (tAugS (tFld K (tVar 0) "counts") (tVar 1) (tC (.int 1)) (gIx K) iAdd uSet))
abbrev t_Shelf_hold_1 (K : PySem.W.Frag) (W : WX) : TS := (tSeq (tIfS (tNot (tB (tCall (sp_is_seal K) [] E0 (tCons (tVar 1) tNil)))) (tRz W (He.ga K "Wrong") "at" (tC (.int 0))) tNext)
  (t_Shelf_hold_3 K W))
abbrev t_Shelf_hold (K : PySem.W.Frag) (W : WX) : TS := (t_Shelf_hold_1 K W)
abbrev t_Shelf_held_3 (K : PySem.W.Frag) (W : WX) : TS := (tSeq (tDrop (tMethW W (He.ga K "Shelf") "need_kept" (sp_Shelf_need_kept K) [] (tVar 0) (tCons (tVar 1) tNil)))
  (tRet (tOp rIxK (tFld K (tVar 0) "counts") (tVar 1))))
abbrev t_Shelf_held_1 (K : PySem.W.Frag) (W : WX) : TS := (tSeq (tIfS (tNot (tB (tCall (sp_is_seal K) [] E0 (tCons (tVar 1) tNil)))) (tRz W (He.ga K "Wrong") "at" (tC (.int 0))) tNext)
  (t_Shelf_held_3 K W))
abbrev t_Shelf_held (K : PySem.W.Frag) (W : WX) : TS := (t_Shelf_held_1 K W)
abbrev t_Shelf_let_go_8 (K : PySem.W.Frag) (W : WX) : TS := (tSeq (tDrop (tDPop1 (tFld K (tVar 0) "bodies") (tVar 1)))
  (tRet (tC (.bl true))))
abbrev t_Shelf_let_go_7 (K : PySem.W.Frag) (W : WX) : TS := (tSeq (tDrop (tDPop1 (tFld K (tVar 0) "counts") (tVar 1)))
  (t_Shelf_let_go_8 K W))
abbrev t_Shelf_let_go_5 (K : PySem.W.Frag) (W : WX) : TS := (tSeq (tIfS (tTest (tOp uGt (tOp rIxK (tFld K (tVar 0) "counts") (tVar 1)) (tC (.int 0)))) (tRet (tC (.bl false))) tNext)
  (t_Shelf_let_go_7 K W))
abbrev t_Shelf_let_go_4 (K : PySem.W.Frag) (W : WX) : TS := (tSeq (tAugS (tFld K (tVar 0) "counts") (tVar 1) (tC (.int 1)) (gIx K) iSub uSet)
  (t_Shelf_let_go_5 K W))
abbrev t_Shelf_let_go_3 (K : PySem.W.Frag) (W : WX) : TS := (tSeq (tDrop (tMethW W (He.ga K "Shelf") "need_kept" (sp_Shelf_need_kept K) [] (tVar 0) (tCons (tVar 1) tNil)))
  (t_Shelf_let_go_4 K W))
abbrev t_Shelf_let_go_1 (K : PySem.W.Frag) (W : WX) : TS := (tSeq (tIfS (tNot (tB (tCall (sp_is_seal K) [] E0 (tCons (tVar 1) tNil)))) (tRz W (He.ga K "Wrong") "at" (tC (.int 0))) tNext)
  (t_Shelf_let_go_3 K W))
abbrev t_Shelf_let_go (K : PySem.W.Frag) (W : WX) : TS := (t_Shelf_let_go_1 K W)
theorem pure_Shelf_hold {K : PySem.W.Frag} (T : TxC K) (vs : List V) (H : Hp) (Q : VK) (E : XK) (h : sp_Shelf_hold K vs H Q E) : t_Shelf_hold K (WT E) { nx := fun _ H' => Q .non H', rt := Q } (L2.start ["self", "seal"] vs) H := by
  obtain ⟨Rs, a, room, st, v, th, rfl, S, hth, k⟩ := h
  obtain ⟨k1, k2, k3⟩ := out_kept k
  refine seal_go (v := v) rfl S hth k1 fun n ev e => ?_
  subst ev
  refine need_go rfl rfl S (k2 n e) fun x o dx c b es H1 he ok hg hs S1 => ?_
  subst he
  have k4 := k3 n _ e hs
  obtain ⟨b1, b2, b3⟩ := bd_of ok hg
  have hl := lenE ok
  show tAugS _ _ _ _ _ _ _ [some (V.ref a), some (V.int n)] H1
  walk_at "go"
  refine v_fld (S1.got 0 rfl) T.cl_Shelf T.na_Shelf_counts rfl ?_
  walk_at "go"
  refine v_gIxK (S1.got 1 rfl) (by rw [val_cnts, hg]; rfl) ?_
  walk_at "go"
  refine v_put S1 1 rfl (by rw [cnts_len]; omega) fun H2 S2 => ?_
  walk_at "go"
  exact k4 H2 (closeS (ok.set (fun z => by rw [hs] at z; cases z) (by show 1 ≤ x + 1; omega) b1 b3) (cnt_put ok hg S2))
theorem pure_Shelf_held {K : PySem.W.Frag} (T : TxC K) (vs : List V) (H : Hp) (Q : VK) (E : XK) (h : sp_Shelf_held K vs H Q E) : t_Shelf_held K (WT E) { nx := fun _ H' => Q .non H', rt := Q } (L2.start ["self", "seal"] vs) H := by
  obtain ⟨Rs, a, room, st, v, th, rfl, S, hth, k⟩ := h
  obtain ⟨k1, k2, k3⟩ := out_kept k
  refine seal_go (v := v) rfl S hth k1 fun n ev e => ?_
  subst ev
  refine need_go rfl rfl S (k2 n e) fun x o dx c b es H1 he ok hg hs S1 => ?_
  subst he
  have k4 := k3 n _ e hs
  show tRet _ _ [some (V.ref a), some (V.int n)] H1
  walk_at "go"
  refine v_fld (S1.got 0 rfl) T.cl_Shelf T.na_Shelf_counts rfl ?_
  walk_at "go"
  refine v_ixK (S1.got 1 rfl) (by rw [val_cnts, hg]; rfl) ?_
  walk_at "go"
  exact k4 H1 (shelf_close rfl ok S1)
theorem pure_Shelf_let_go {K : PySem.W.Frag} (T : TxC K) (vs : List V) (H : Hp) (Q : VK) (E : XK) (h : sp_Shelf_let_go K vs H Q E) : t_Shelf_let_go K (WT E) { nx := fun _ H' => Q .non H', rt := Q } (L2.start ["self", "seal"] vs) H := by
  obtain ⟨Rs, a, room, st, v, th, rfl, S, hth, k⟩ := h
  obtain ⟨k1, k2, k3⟩ := out_kept k
  refine seal_go (v := v) rfl S hth k1 fun n ev e => ?_
  subst ev
  refine need_go rfl rfl S (k2 n e) fun x o dx c b es H1 he ok hg hs S1 => ?_
  subst he
  have k4 := k3 n _ e hs
  obtain ⟨b1, b2, b3⟩ := bd_of ok hg
  have hl := lenE ok
  show t_Shelf_let_go_4 K _ _ [some (V.ref a), some (V.int n)] H1
  walk_at "go"
  refine v_fld (S1.got 0 rfl) T.cl_Shelf T.na_Shelf_counts rfl ?_
  walk_at "go"
  refine v_gIxK (S1.got 1 rfl) (by rw [val_cnts, hg]; rfl) ?_
  walk_at "go"
  refine v_put S1 1 rfl (by rw [cnts_len]; omega) fun H2 S2 => ?_
  have nd := ok.nd
  rw [keys_abs] at nd
  have S3 := cnt_put ok hg S2
  have hg2 : getE (setE es n (x - 1, o)) n = some (x - 1, o) := by
    have hm : ∀ es : List Eb, (getE es n).isSome = true → getE (es.map fun e => if e.1 = n then (n, x - 1, o) else e) n = some (x - 1, o) := by
      intro es
      induction es with
      | nil => intro h; cases h
      | cons q r ih =>
        intro h
        rw [List.map_cons, getE_cons]
        rw [getE_cons] at h
        by_cases hk : q.1 = n
        · rw [if_pos hk, if_pos rfl]
        · rw [if_neg hk] at h
          rw [if_neg hk, if_neg hk]
          exact ih h
    unfold setE
    rw [hg]
    exact hm es (by rw [hg]; rfl)
  walk_at "go"
  refine v_fld (S3.got 0 rfl) T.cl_Shelf T.na_Shelf_counts rfl ?_
  walk_at "go"
  refine v_ixK (S3.got 1 rfl) (by rw [val_cnts, hg2]; rfl) ?_
  walk_at "go"
  refine v_ifD (fun h => ?_) (fun h => ?_)
  · walk_at "go"
    rw [if_pos (show (x : Int) - 1 > 0 from h)] at k4
    exact k4 H2 (closeS (ok.set (fun z => by rw [hs] at z; cases z) (by show 1 ≤ x - 1; omega) b1 b3) S3)
  · rw [if_neg (show ¬ (x : Int) - 1 > 0 from h)] at k4
    walk_at "go"
    refine v_fld (S3.got 0 rfl) T.cl_Shelf T.na_Shelf_counts rfl ?_
    refine v_dpop (S3.got 1 rfl) ?_
    walk_at "go"
    refine v_popI S3 1 rfl (by rw [val_cnts, hg2]; rfl) fun H4 S4 => ?_
    walk_at "go"
    refine v_fld (S4.got 0 rfl) T.cl_Shelf T.na_Shelf_bodies rfl ?_
    refine v_dpop (S4.got 2 rfl) ?_
    walk_at "go"
    refine v_popI S4 2 rfl (by rw [val_bods, hg2]; rfl) fun H5 S5 => ?_
    walk_at "go"
    have S6 : M (opn K a dx c b room (delE (setE es n (x - 1, o)) n) Rs) H5 := by
      have S7 : M (pt a (insS dx c b (He.ga K "Shelf") room) :: pt c (.dK (dropK (cnts (setE es n (x - 1, o))) (Sum.inl n))) :: pt b (.dK (dropK (bods (setE es n (x - 1, o))) (Sum.inl n))) :: bodR (setE es n (x - 1, o)) :: pt dx (.own a) :: Rs) H5 := S5
      rw [drop_cnts, drop_bods] at S7
      have S8 : M (bodR (setE es n (x - 1, o)) :: pt a (insS dx c b (He.ga K "Shelf") room) :: pt c (.dK (cnts (delE (setE es n (x - 1, o)) n))) :: pt b (.dK (bods (delE (setE es n (x - 1, o)) n))) :: pt dx (.own a) :: Rs) H5 := M.sub (.cons 3 rfl (.cons 0 rfl (.cons 0 rfl (.cons 0 rfl (.cons 0 rfl (.refl _)))))) S7
      exact M.sub (.cons 1 rfl (.cons 1 rfl (.cons 1 rfl (.cons 0 rfl (.cons 0 rfl (.refl _)))))) (bodR_del (s := n) S8)
    have e5 : (delE (setE es n (x - 1, o)) n).map absE = delS (es.map absE) n := by
      rw [abs_delE, abs_setE]
      unfold setS
      rw [hs]
      show delS (List.map _ _) n = _
      unfold delS
      rw [List.filter_map]
      have : ∀ l : List Ent3, List.map (fun e : Ent3 => if e.1 = n then (n, (x - 1, o.map (·.2))) else e) (l.filter ((fun e : Ent3 => decide (e.1 ≠ n)) ∘ fun e : Ent3 => if e.1 = n then (n, (x - 1, o.map (·.2))) else e)) = List.map id (l.filter fun e : Ent3 => decide (e.1 ≠ n)) := by
        intro l
        induction l with
        | nil => rfl
        | cons q r ih =>
          by_cases hk : q.1 = n
          · rw [List.filter_cons_of_neg (by simp [hk]), List.filter_cons_of_neg (by simp [hk]), ih]
          · rw [List.filter_cons_of_pos (by simp [hk]), List.filter_cons_of_pos (by simp [hk]), List.map_cons, List.map_cons, ih]
            simp [hk]
      exact (this _).trans (List.map_id _)
    exact k4 H5 (shelf_close e5 (ok.del n) S6)
abbrev t_Shelf_harm_5 (K : PySem.W.Frag) (W : WX) : TS := (tSeq (tDrop (tMethW W (He.ga K "Shelf") "need_kept" (sp_Shelf_need_kept K) [] (tVar 0) (tCons (tVar 1) tNil)))
  (tAsg (tCB (rListOf K) (tCons (tVar 2) tNil)) (gSub (tFld K (tVar 0) "bodies") (tVar 1) uSet)))
abbrev t_Shelf_harm_3 (K : PySem.W.Frag) (W : WX) : TS := (tSeq (tIfS (tNot (tB (tCall (sp_are_signs K) [] E0 (tCons (tVar 2) (tCons (tC (.int 0)) (tCons (tC (.int 16)) tNil)))))) (tRz W (He.ga K "Wrong") "at" (tC (.int 1))) tNext)
  (t_Shelf_harm_5 K W))
abbrev t_Shelf_harm_1 (K : PySem.W.Frag) (W : WX) : TS := (tSeq (tIfS (tNot (tB (tCall (sp_is_seal K) [] E0 (tCons (tVar 1) tNil)))) (tRz W (He.ga K "Wrong") "at" (tC (.int 0))) tNext)
  (t_Shelf_harm_3 K W))
abbrev t_Shelf_harm (K : PySem.W.Frag) (W : WX) : TS := (t_Shelf_harm_1 K W)
abbrev t_Shelf_lose_3 (K : PySem.W.Frag) (W : WX) : TS := (tSeq (tDrop (tMethW W (He.ga K "Shelf") "need_kept" (sp_Shelf_need_kept K) [] (tVar 0) (tCons (tVar 1) tNil)))
  (tAsg (tC .non) (gSub (tFld K (tVar 0) "bodies") (tVar 1) uSet)))
abbrev t_Shelf_lose_1 (K : PySem.W.Frag) (W : WX) : TS := (tSeq (tIfS (tNot (tB (tCall (sp_is_seal K) [] E0 (tCons (tVar 1) tNil)))) (tRz W (He.ga K "Wrong") "at" (tC (.int 0))) tNext)
  (t_Shelf_lose_3 K W))
abbrev t_Shelf_lose (K : PySem.W.Frag) (W : WX) : TS := (t_Shelf_lose_1 K W)
abbrev t_Shelf_heal_6 (K : PySem.W.Frag) (W : WX) : TS := (tSeq (tIfS (tTest (tOp (uNe K) (tCall (sp_seal_of K) [] E0 (tCons (tVar 2) tNil)) (tVar 1))) (tRz W (He.ga K "Unlike") "seal" (tVar 1)) tNext)
  (tAsg (tCB (rListOf K) (tCons (tVar 2) tNil)) (gSub (tFld K (tVar 0) "bodies") (tVar 1) uSet)))
abbrev t_Shelf_heal_5 (K : PySem.W.Frag) (W : WX) : TS := (tSeq (tDrop (tMethW W (He.ga K "Shelf") "need_kept" (sp_Shelf_need_kept K) [] (tVar 0) (tCons (tVar 1) tNil)))
  (t_Shelf_heal_6 K W))
abbrev t_Shelf_heal_3 (K : PySem.W.Frag) (W : WX) : TS := (tSeq (tIfS (tNot (tB (tCall (sp_are_signs K) [] E0 (tCons (tVar 2) (tCons (tC (.int 1)) (tCons (tC (.int 16)) tNil)))))) (tRz W (He.ga K "Wrong") "at" (tC (.int 1))) tNext)
  (t_Shelf_heal_5 K W))
abbrev t_Shelf_heal_1 (K : PySem.W.Frag) (W : WX) : TS := (tSeq (tIfS (tNot (tB (tCall (sp_is_seal K) [] E0 (tCons (tVar 1) tNil)))) (tRz W (He.ga K "Wrong") "at" (tC (.int 0))) tNext)
  (t_Shelf_heal_3 K W))
abbrev t_Shelf_heal (K : PySem.W.Frag) (W : WX) : TS := (t_Shelf_heal_1 K W)
abbrev t_Shelf_is_sound_3 (K : PySem.W.Frag) (W : WX) : TS := (tSeq (tDrop (tMethW W (He.ga K "Shelf") "need_kept" (sp_Shelf_need_kept K) [] (tVar 0) (tCons (tVar 1) tNil)))
  (tRet (tMethW W0 (He.ga K "Shelf") "has_sound" (sp_Shelf_has_sound K) [] (tVar 0) (tCons (tVar 1) tNil))))
abbrev t_Shelf_is_sound_1 (K : PySem.W.Frag) (W : WX) : TS := (tSeq (tIfS (tNot (tB (tCall (sp_is_seal K) [] E0 (tCons (tVar 1) tNil)))) (tRz W (He.ga K "Wrong") "at" (tC (.int 0))) tNext)
  (t_Shelf_is_sound_3 K W))
abbrev t_Shelf_is_sound (K : PySem.W.Frag) (W : WX) : TS := (t_Shelf_is_sound_1 K W)
abbrev t_Shelf_read_4 (K : PySem.W.Frag) (W : WX) : TS := (tSeq (tIfS (tNot (tB (tMethW W0 (He.ga K "Shelf") "has_sound" (sp_Shelf_has_sound K) [] (tVar 0) (tCons (tVar 1) tNil)))) (tRz W (He.ga K "Broken") "seal" (tVar 1)) tNext)
  (tRet (tCB (rListOf K) (tCons (tOp rIxK (tFld K (tVar 0) "bodies") (tVar 1)) tNil))))
abbrev t_Shelf_read_3 (K : PySem.W.Frag) (W : WX) : TS := (tSeq (tDrop (tMethW W (He.ga K "Shelf") "need_kept" (sp_Shelf_need_kept K) [] (tVar 0) (tCons (tVar 1) tNil)))
  (t_Shelf_read_4 K W))
abbrev t_Shelf_read_1 (K : PySem.W.Frag) (W : WX) : TS := (tSeq (tIfS (tNot (tB (tCall (sp_is_seal K) [] E0 (tCons (tVar 1) tNil)))) (tRz W (He.ga K "Wrong") "at" (tC (.int 0))) tNext)
  (t_Shelf_read_3 K W))
abbrev t_Shelf_read (K : PySem.W.Frag) (W : WX) : TS := (t_Shelf_read_1 K W)
abbrev t_Shelf_lay_5 (K : PySem.W.Frag) (W : WX) : TS := (tSeq (tIfS (tTest (tOp (uEq K) (tMethW W0 (He.ga K "Shelf") "free" (sp_Shelf_free K) [] (tVar 0) tNil) (tC (.int 0)))) (tRz W (He.ga K "NoRoom") "room" (tFld K (tVar 0) "room")) tNext)
  (tAsg (tC (.int 0)) (gSub (tFld K (tVar 0) "counts") (tVar 2) uSet)))
abbrev t_Shelf_lay_9 (K : PySem.W.Frag) (W : WX) : TS := (tSeq (tAsg (tCB (rListOf K) (tCons (tVar 1) tNil)) (gSub (tFld K (tVar 0) "bodies") (tVar 2) uSet))
  (tRet (tVar 2)))
abbrev t_Shelf_lay_8 (K : PySem.W.Frag) (W : WX) : TS := (tSeq (tAugS (tFld K (tVar 0) "counts") (tVar 2) (tC (.int 1)) (gIx K) iAdd uSet)
  (t_Shelf_lay_9 K W))
abbrev t_Shelf_lay_4 (K : PySem.W.Frag) (W : WX) : TS := (tSeq (tIfS (tTest (tOp (uNotIn K) (tVar 2) (tFld K (tVar 0) "counts"))) (t_Shelf_lay_5 K W) tNext)
  (t_Shelf_lay_8 K W))
abbrev t_Shelf_lay_3 (K : PySem.W.Frag) (W : WX) : TS := (tSeq (tAsg (tCall (sp_seal_of K) [] E0 (tCons (tVar 1) tNil)) (gName 2))
  (t_Shelf_lay_4 K W))
abbrev t_Shelf_lay_1 (K : PySem.W.Frag) (W : WX) : TS := (tSeq (tIfS (tNot (tB (tCall (sp_are_signs K) [] E0 (tCons (tVar 1) (tCons (tC (.int 1)) (tCons (tC (.int 16)) tNil)))))) (tRz W (He.ga K "Wrong") "at" (tC (.int 0))) tNext)
  (t_Shelf_lay_3 K W))
abbrev t_Shelf_lay (K : PySem.W.Frag) (W : WX) : TS := (t_Shelf_lay_1 K W)
theorem pure_Shelf_harm {K : PySem.W.Frag} (T : TxC K) (vs : List V) (H : Hp) (Q : VK) (E : XK) (h : sp_Shelf_harm K vs H Q E) : t_Shelf_harm K (WT E) { nx := fun _ H' => Q .non H', rt := Q } (L2.start ["self", "seal", "signs"] vs) H := by
  obtain ⟨Rs, a, room, st, v, u, th, tu, rfl, S, hth, htu, k⟩ := h
  obtain ⟨k1, k2, k3, k4⟩ := out_kept2 k
  refine seal_go (v := v) rfl S hth k1 fun n ev e => ?_
  subst ev
  refine signs_go (u := u) rfl S htu (k2 n e) fun p ns eu et e2 l1 l2 l3 => ?_
  subst eu
  refine need_go rfl rfl S (k3 n ns e e2) fun x o dx c b es H1 he ok hg hs S1 => ?_
  subst he
  have k5 := k4 n ns _ e e2 hs
  obtain ⟨b1, b2, b3⟩ := bd_of ok hg
  have hl := lenE ok
  subst et
  have sq := thg_sq (htu.at_ H1 S1.tl.tl.tl.tl.tl)
  show tAsg _ _ _ [some (V.ref a), some (V.int n), some (V.ref p)] H1
  walk_at "go"
  refine v_list S1 (.inl sq) fun q H2 S2 => ?_
  walk_at "go"
  refine v_fld (S2.got 1 rfl) T.cl_Shelf T.na_Shelf_bodies rfl ?_
  walk_at "go"
  refine v_put S2 3 rfl (by rw [bods_len]; omega) fun H3 S3 => ?_
  walk_at "go"
  exact k5 H3 (closeS (o := some (q, ns)) (ok.set (fun z => by rw [hs] at z; cases z) b2 (fun ms z => by cases z; exact ⟨by show ns.length ≤ 16; omega, l3⟩) b3) (bod_put ok hg S3))
theorem pure_Shelf_lose {K : PySem.W.Frag} (T : TxC K) (vs : List V) (H : Hp) (Q : VK) (E : XK) (h : sp_Shelf_lose K vs H Q E) : t_Shelf_lose K (WT E) { nx := fun _ H' => Q .non H', rt := Q } (L2.start ["self", "seal"] vs) H := by
  obtain ⟨Rs, a, room, st, v, th, rfl, S, hth, k⟩ := h
  obtain ⟨k1, k2, k3⟩ := out_kept k
  refine seal_go (v := v) rfl S hth k1 fun n ev e => ?_
  subst ev
  refine need_go rfl rfl S (k2 n e) fun x o dx c b es H1 he ok hg hs S1 => ?_
  subst he
  have k4 := k3 n _ e hs
  obtain ⟨b1, b2, b3⟩ := bd_of ok hg
  have hl := lenE ok
  show tAsg _ _ _ [some (V.ref a), some (V.int n)] H1
  walk_at "go"
  refine v_fld (S1.got 0 rfl) T.cl_Shelf T.na_Shelf_bodies rfl ?_
  walk_at "go"
  refine v_put S1 2 rfl (by rw [bods_len]; omega) fun H3 S3 => ?_
  walk_at "go"
  exact k4 H3 (closeS (o := none) (ok.set (fun z => by rw [hs] at z; cases z) b2 (fun ms z => by cases z) b3) (bod_none ok hg S3))
theorem pure_Shelf_heal {K : PySem.W.Frag} (T : TxC K) (vs : List V) (H : Hp) (Q : VK) (E : XK) (h : sp_Shelf_heal K vs H Q E) : t_Shelf_heal K (WT E) { nx := fun _ H' => Q .non H', rt := Q } (L2.start ["self", "seal", "signs"] vs) H := by
  obtain ⟨Rs, a, room, st, v, u, th, tu, rfl, S, hth, htu, k⟩ := h
  obtain ⟨k1, k2, k3, k4⟩ := out_kept2 k
  refine seal_go (v := v) rfl S hth k1 fun n ev e => ?_
  subst ev
  refine signs_go (u := u) rfl S htu (k2 n e) fun p ns eu et e2 l1 l2 l3 => ?_
  subst eu
  refine need_go rfl rfl S (k3 n ns e e2) fun x o dx c b es H1 he ok hg hs S1 => ?_
  subst he
  have k5 := k4 n ns _ e e2 hs
  obtain ⟨b1, b2, b3⟩ := bd_of ok hg
  have hl := lenE ok
  subst et
  have sq := thg_sq (htu.at_ H1 S1.tl.tl.tl.tl.tl)
  show t_Shelf_heal_6 K _ _ [some (V.ref a), some (V.int n), some (V.ref p)] H1
  walk_at "go"
  refine u_seal_of sq ⟨by omega, by omega, l3⟩ ?_
  walk_at "go"
  refine v_ifN (fun h => ?_) (fun h => ?_)
  · walk_at "go"
    rw [if_pos h] at k5
    refine v_rz S1 fun d H' S' => k5 d H' (opn_x ok S')
  · rw [if_neg (fun z => z h)] at k5
    walk_at "go"
    refine v_list S1 (.inl sq) fun q H2 S2 => ?_
    walk_at "go"
    refine v_fld (S2.got 1 rfl) T.cl_Shelf T.na_Shelf_bodies rfl ?_
    walk_at "go"
    refine v_put S2 3 rfl (by rw [bods_len]; omega) fun H3 S3 => ?_
    walk_at "go"
    exact k5 H3 (closeS (o := some (q, ns)) (ok.set (fun z => by rw [hs] at z; cases z) b2 (fun ms z => by cases z; exact ⟨by show ns.length ≤ 16; omega, l3⟩) b3) (bod_put ok hg S3))
/-- has_sound of a kept seal -/
theorem u_has_sound {K : PySem.W.Frag} {Rs : List Res} {H : Hp} {a dx c b : Addr} {room n x : Int} {o : Option (Addr × List Int)} {es : List Eb} {Q : VK} {E : XK} (S : M (opn K a dx c b room es Rs) H) (ok : ShOk room (es.map absE)) (hg : getE es n = some (x, o))
    (k : ∀ H', M (opn K a dx c b room es Rs) H' → Q (.bl (soundB n (o.map (·.2)))) H') : sp_Shelf_has_sound K (.ref a :: ([.int n] ++ [])) H Q E := by
  refine ⟨_, a, dx, c, b, room, n, bods es, o, rfl, S, S.got 0 rfl, S.got 2 rfl, by rw [val_bods, hg]; rfl, fun q hq => ?_, k⟩
  subst hq
  obtain ⟨b1, _⟩ := bd_of ok hg
  obtain ⟨h1, h2⟩ := b1 q.2 rfl
  exact ⟨fun H' S' => bodR_at S' 3 rfl hg, ⟨Nat.zero_le _, h1, h2⟩⟩
theorem pure_Shelf_is_sound {K : PySem.W.Frag} (T : TxC K) (vs : List V) (H : Hp) (Q : VK) (E : XK) (h : sp_Shelf_is_sound K vs H Q E) : t_Shelf_is_sound K (WT E) { nx := fun _ H' => Q .non H', rt := Q } (L2.start ["self", "seal"] vs) H := by
  obtain ⟨Rs, a, room, st, v, th, rfl, S, hth, k⟩ := h
  obtain ⟨k1, k2, k3⟩ := out_kept k
  refine seal_go (v := v) rfl S hth k1 fun n ev e => ?_
  subst ev
  refine need_go rfl rfl S (k2 n e) fun x o dx c b es H1 he ok hg hs S1 => ?_
  subst he
  have k4 := k3 n _ e hs
  show tRet _ _ [some (V.ref a), some (V.int n)] H1
  walk_at "go"
  refine v_meth (S1.got 0 rfl) rfl ?_
  walk_at "go"
  refine u_has_sound S1 ok hg fun H2 S2 => ?_
  walk_at "go"
  exact k4 H2 (shelf_close rfl ok S2)
theorem pure_Shelf_read {K : PySem.W.Frag} (T : TxC K) (vs : List V) (H : Hp) (Q : VK) (E : XK) (h : sp_Shelf_read K vs H Q E) : t_Shelf_read K (WT E) { nx := fun _ H' => Q .non H', rt := Q } (L2.start ["self", "seal"] vs) H := by
  obtain ⟨Rs, a, room, st, v, th, rfl, S, hth, k⟩ := h
  obtain ⟨k1, k2, k3⟩ := out_kept k
  refine seal_go (v := v) rfl S hth k1 fun n ev e => ?_
  subst ev
  refine need_go rfl rfl S (k2 n e) fun x o dx c b es H1 he ok hg hs S1 => ?_
  subst he
  have k4 := k3 n _ e hs
  show t_Shelf_read_4 K _ _ [some (V.ref a), some (V.int n)] H1
  walk_at "go"
  refine v_meth (S1.got 0 rfl) rfl ?_
  walk_at "go"
  refine u_has_sound S1 ok hg fun H2 S2 => ?_
  walk_at "go"
  cases es2 : soundB n (o.map (·.2)) with
  | false =>
    dsimp only at k4
    rw [es2] at k4
    walk_at "go"
    exact v_rz S2 fun d H' S' => k4 d H' (opn_x ok S')
  | true =>
    dsimp only at k4
    rw [es2] at k4
    walk_at "go"
    refine v_fld (S2.got 0 rfl) T.cl_Shelf T.na_Shelf_bodies rfl ?_
    walk_at "go"
    refine v_ixK (S2.got 2 rfl) (by rw [val_bods, hg]; rfl) ?_
    cases o with
    | none => cases es2
    | some q =>
      walk_at "go"
      refine v_list S2 (.inl (SqL.of (bodR_at S2 3 rfl hg))) fun p H3 S3 => ?_
      walk_at "go"
      exact k4 p H3 (opn_x ok S3)
theorem pure_Shelf_lay {K : PySem.W.Frag} (T : TxC K) (vs : List V) (H : Hp) (Q : VK) (E : XK) (h : sp_Shelf_lay K vs H Q E) : t_Shelf_lay K (WT E) { nx := fun _ H' => Q .non H', rt := Q } (L2.start ["self", "signs", "seal"] vs) H := by
  obtain ⟨Rs, a, room, st, u, tu, rfl, S, htu, k⟩ := h
  show t_Shelf_lay K (WT E) _ [some (V.ref a), some u, none] H
  unfold layF at k
  walk_at "go"
  refine u_are_signsS (htu.at_ H S.tl) (htu.it H S.tl) (fun e => ?_) (fun p ns e ev et l1 l2 l3 => ?_)
  · rw [e] at k
    walk_at "go"
    exact v_rz S fun d H' S' => k d H' S'
  · rw [e] at k
    dsimp only at k
    subst ev et
    walk_at "go"
    have sg : Signs 1 16 ns := ⟨by omega, by omega, l3⟩
    refine u_seal_of (thg_sq (htu.at_ H S.tl)) sg ?_
    obtain ⟨dx, c, b, es, rfl, ok, S1⟩ := shelf_open S
    have hl := lenE ok
    walk_at "go"
    refine v_fld (S1.got 0 rfl) T.cl_Shelf T.na_Shelf_counts rfl ?_
    refine v_ninK (S1.got 1 rfl) ?_
    rw [val_cnts, Option.isSome_map]
    cases hg : getE es (sealN ns) with
    | some x =>
      obtain ⟨x, o⟩ := x
      have hs := get_of hg
      rw [hs] at k
      obtain ⟨b1, b2, b3⟩ := bd_of ok hg
      dsimp only [Option.isSome]
      walk_at "go"
      refine v_fld (S1.got 0 rfl) T.cl_Shelf T.na_Shelf_counts rfl ?_
      walk_at "go"
      refine v_gIxK (S1.got 1 rfl) (by rw [val_cnts, hg]; rfl) ?_
      walk_at "go"
      refine v_put S1 1 rfl (by rw [cnts_len]; omega) fun H2 S2 => ?_
      have S3 := cnt_put ok hg S2
      have nd := ok.nd
      walk_at "go"
      refine v_list S3 (.inl (thg_sq (htu.at_ H2 S3.tl.tl.tl.tl.tl))) fun q H4 S4 => ?_
      walk_at "go"
      refine v_fld (S4.got 1 rfl) T.cl_Shelf T.na_Shelf_bodies rfl ?_
      walk_at "go"
      have ok2 : ShOk room ((setE es (sealN ns) (x + 1, o)).map absE) := by
        rw [abs_setE]
        exact ok.set (fun z => by rw [hs] at z; cases z) (by show 1 ≤ x + 1; omega) b1 b3
      refine v_put S4 3 rfl (by rw [bods_len]; have := lenE ok2; show (setE es (sealN ns) (x + 1, o)).length < _; omega) fun H5 S5 => ?_
      walk_at "go"
      have hg2 : getE (setE es (sealN ns) (x + 1, o)) (sealN ns) = some (x + 1, o) := getE_set
      have S6 := bod_put ok2 hg2 S5
      rw [setE_set] at S6
      exact k H5 (closeS (o := some (q, ns)) (ok.set (fun z => by rw [hs] at z; cases z) (by show 1 ≤ x + 1; omega) (fun ms z => by cases z; exact ⟨by show ns.length ≤ 16; omega, l3⟩) b3) S6)
    | none =>
      have hs : getS (es.map absE) (sealN ns) = none := by rw [getE_abs, hg]; rfl
      rw [hs] at k
      dsimp only [Option.isSome] at k ⊢
      walk_at "go"
      refine v_meth (S1.got 0 rfl) rfl ?_
      walk_at "go"
      refine ⟨a, dx, c, b, room, cnts es, rfl, S1.got 0 rfl, S1.got 1 rfl, ?_⟩
      rw [cnts_len]
      walk_at "go"
      have hle := ok.le
      rw [List.length_map] at hle k
      refine v_ifD (fun h => ?_) (fun h => ?_)
      · rw [if_pos (by omega)] at k
        walk_at "go"
        refine v_fld (S1.got 0 rfl) T.cl_Shelf T.na_Shelf_room rfl ?_
        exact v_rz S1 fun d H' S' => k d H' (opn_x ok S')
      · rw [if_neg (by omega)] at k
        walk_at "go"
        refine v_fld (S1.got 0 rfl) T.cl_Shelf T.na_Shelf_counts rfl ?_
        walk_at "go"
        refine v_put S1 1 rfl (by rw [cnts_len]; omega) fun H2 S2 => ?_
        walk_at "go"
        refine v_fld (S2.got 0 rfl) T.cl_Shelf T.na_Shelf_counts rfl ?_
        walk_at "go"
        refine v_gIxK (v := .int 0) (S2.got 1 rfl) ?_ ?_
        · rw [put_cnts (o := none), hg, val_cnts, getE_set]
          rfl
        walk_at "go"
        refine v_put S2 1 rfl ?_ fun H3 S3 => ?_
        · rw [put_cnts (o := none), cnts_len]
          have := len_setE (es := es) (s := sealN ns) (x := (0, ((getE es (sealN ns)).map (·.2)).getD none))
          omega
        walk_at "go"
        refine v_list S3 (.inl (thg_sq (htu.at_ H3 S3.tl.tl.tl.tl.tl))) fun q H4 S4 => ?_
        walk_at "go"
        refine v_fld (S4.got 1 rfl) T.cl_Shelf T.na_Shelf_bodies rfl ?_
        walk_at "go"
        refine v_put S4 3 rfl (by rw [bods_len]; omega) fun H5 S5 => ?_
        walk_at "go"
        have S6 : M (pt q (.lst (ns.map V.int)) :: pt a (insS dx c b (He.ga K "Shelf") room) :: pt c (.dK (putK (putK (cnts es) (Sum.inl (sealN ns)) (.int 0)) (Sum.inl (sealN ns)) (.int (0 + 1)))) :: pt b (.dK (putK (bods es) (Sum.inl (sealN ns)) (.ref q))) :: bodR es :: pt dx (.own a) :: Rs) H5 := S5
        have e1 : putK (putK (cnts es) (Sum.inl (sealN ns)) (.int 0)) (Sum.inl (sealN ns)) (.int (0 + 1)) = cnts (setE es (sealN ns) (1, some (q, ns))) := by
          rw [put_cnts (o := some (q, ns)), hg]
          show putK (cnts (setE es (sealN ns) (0, some (q, ns)))) _ _ = _
          rw [put_cnts (o := some (q, ns)), getE_set]
          show cnts (setE (setE es (sealN ns) (0, some (q, ns))) (sealN ns) (0 + 1, some (q, ns))) = _
          rw [setE_set]
          rfl
        have e2 : putK (bods es) (Sum.inl (sealN ns)) (.ref q) = bods (setE es (sealN ns) (1, some (q, ns))) := put_bods_new (o := some (q, ns)) hg
        rw [e1, e2] at S6
        have S7 : M (pt q (.lst (ns.map V.int)) :: bodR es :: pt a (insS dx c b (He.ga K "Shelf") room) :: pt c (.dK (cnts (setE es (sealN ns) (1, some (q, ns))))) :: pt b (.dK (bods (setE es (sealN ns) (1, some (q, ns))))) :: pt dx (.own a) :: Rs) H5 := M.sub (.cons 0 rfl (.cons 3 rfl (.cons 0 rfl (.cons 0 rfl (.cons 0 rfl (.cons 0 rfl (.refl _))))))) S6
        have S8 : M (opn K a dx c b room (setE es (sealN ns) (1, some (q, ns))) Rs) H5 := M.sub (.cons 1 rfl (.cons 1 rfl (.cons 1 rfl (.cons 0 rfl (.cons 0 rfl (.refl _)))))) (bodR_new (s := sealN ns) (c := 1) S7)
        exact k H5 (closeS (o := some (q, ns)) (ok.set (fun _ => by rw [List.length_map]; omega) (by show (1 : Int) ≤ 1; decide) (fun ms z => by cases z; exact ⟨by show ns.length ≤ 16; omega, l3⟩) (sealN_ok sg)) S8)
abbrev t_is_room (K : PySem.W.Frag) : TS := (tRet (tAndV (tCall (sp_is_whole K) [] E0 (tCons (tVar 0) tNil)) (tChain uLe uLe (tC (.int 1)) (tVar 0) (tC (.int 400)))))
abbrev t_Shelf___init___4 (K : PySem.W.Frag) (W : WX) : TS := (tSeq (sFld K (tVar 0) tDNewK "counts")
  (sFld K (tVar 0) tDNewK "bodies"))
abbrev t_Shelf___init___3 (K : PySem.W.Frag) (W : WX) : TS := (tSeq (sFld K (tVar 0) (tVar 1) "room")
  (t_Shelf___init___4 K W))
abbrev t_Shelf___init___1 (K : PySem.W.Frag) (W : WX) : TS := (tSeq (tIfS (tNot (tB (tCall (sp_is_room K) [] E0 (tCons (tVar 1) tNil)))) (tRz W (He.ga K "Wrong") "at" (tC (.int 0))) tNext)
  (t_Shelf___init___3 K W))
abbrev t_Shelf___init__ (K : PySem.W.Frag) (W : WX) : TS := (t_Shelf___init___1 K W)
abbrev t_Shelf_seals (K : PySem.W.Frag) : TS := (tRet (tCB rSortDI (tCons (tFld K (tVar 0) "counts") tNil)))
abbrev t_Shelf_broken (K : PySem.W.Frag) : TS := (tRet (tLc (iList K (tCB rSortDI (tCons (tFld K (tVar 0) "counts") tNil))) (gName 1) (tNot (tB (tMethW W0 (He.ga K "Shelf") "has_sound" (sp_Shelf_has_sound K) [] (tVar 0) (tCons (tVar 1) tNil)))) (tVar 1) [1]))
theorem pure_is_room {K : PySem.W.Frag} (vs : List V) (H : Hp) (Q : VK) (E : XK) (h : sp_is_room K vs H Q E) : t_is_room K { nx := fun _ H' => Q .non H', rt := Q } (L2.start ["thing"] vs) H := by
  obtain ⟨v, th, rfl, ht, k⟩ := h
  show t_is_room K _ [some v] H
  walk_at "go"
  refine ⟨v, th, rfl, ht, ?_⟩
  cases ht with
  | int n =>
    dsimp only [Thing.isInt]
    walk_at "go"
    refine v_ifD (fun h => ?_) (fun h => ?_)
    · walk_at "go"
      have e : (roomT (.int n)).isSome = decide (n ≤ 400) := by
        unfold roomT
        dsimp only
        by_cases h2 : n ≤ 400
        · rw [if_pos ⟨h, h2⟩, decide_eq_true h2]
          rfl
        · rw [if_neg (fun z => h2 z.2), decide_eq_false h2]
          rfl
      rw [e] at k
      exact k
    · walk_at "go"
      have e : roomT (.int n) = none := if_neg fun z => h z.1
      rw [e] at k
      exact k
  | lst h =>
    dsimp only [Thing.isInt]
    walk_at "go"
    exact k
  | oth h ht =>
    dsimp only [Thing.isInt]
    walk_at "go"
    exact k
theorem roomT_some {th : Thing} {n : Int} (h : roomT th = some n) : th = .int n ∧ 1 ≤ n ∧ n ≤ 400 := by
  cases th with
  | int m =>
    simp only [roomT] at h
    split at h
    · cases h
      rename_i z
      exact ⟨rfl, z.1, z.2⟩
    · cases h
  | lst xs => cases h
  | oth => cases h
theorem pure_Shelf___init__ {K : PySem.W.Frag} (T : TxC K) (vs : List V) (H : Hp) (Q : VK) (E : XK) (h : sp_Shelf___init__ K vs H Q E) : t_Shelf___init__ K (WT E) { nx := fun _ H' => Q .non H', rt := Q } (L2.start ["self", "room"] vs) H := by
  obtain ⟨Rs, a, dx, v, th, rfl, S, hth, k1, k2⟩ := h
  show t_Shelf___init__ K (WT E) _ [some (V.ref a), some v] H
  walk_at "go"
  refine ⟨v, th, rfl, hth.at_ H S.tl.tl, ?_⟩
  cases e : roomT th with
  | none =>
    dsimp only [Option.isSome]
    walk_at "go"
    exact v_rz S fun d H' S' => k1 e d H' (M.sub (.cons 0 rfl (.tl (.tl (.refl _)))) S')
  | some room =>
    obtain ⟨rfl, h1, h2⟩ := roomT_some e
    have ev : v = .int room := by
      cases hth.at_ H S.tl.tl
      rfl
    subst ev
    dsimp only [Option.isSome]
    walk_at "go"
    refine v_sfld S 0 rfl T.cl_Shelf T.na_Shelf_room (by simp) fun H1 S1 => ?_
    walk_at "go"
    refine v_dnew S1 fun c H2 S2 => ?_
    walk_at "go"
    refine v_sfld S2 1 rfl T.cl_Shelf T.na_Shelf_counts (by show 1 < 1000; decide) fun H3 S3 => ?_
    walk_at "go"
    refine v_dnew S3 fun b H4 S4 => ?_
    walk_at "go"
    refine v_sfld S4 2 rfl T.cl_Shelf T.na_Shelf_bodies (by show 2 < 1000; decide) fun H5 S5 => ?_
    walk_at "go"
    have S6 : M (pt b (.dK (bods [])) :: pt c (.dK (cnts [])) :: pt a (insS dx c b (He.ga K "Shelf") room) :: pt dx (.own a) :: Rs) H5 := S5
    have S7 : M (bodR [] :: pt b (.dK (bods [])) :: pt c (.dK (cnts [])) :: pt a (insS dx c b (He.ga K "Shelf") room) :: pt dx (.own a) :: Rs) H5 := by
      obtain ⟨F, L, s, m⟩ := S6
      exact ⟨F, L, ⟨[], L, rfl, ⟨rfl, fun _ h => nomatch h⟩, s⟩, m⟩
    refine k2 room e H5 (shelf_close (dx := dx) (c := c) (b := b) (es := []) rfl ⟨h1, h2, by show ((0 : Nat) : Int) ≤ room; omega, List.nodup_nil, (fun _ h => nomatch h), (fun _ h => nomatch h), (fun _ h => nomatch h)⟩ ?_)
    exact M.sub (.cons 3 rfl (.cons 2 rfl (.cons 1 rfl (.cons 0 rfl (.cons 0 rfl (.refl _)))))) S7
theorem pure_Shelf_seals {K : PySem.W.Frag} (T : TxC K) (vs : List V) (H : Hp) (Q : VK) (E : XK) (h : sp_Shelf_seals K vs H Q E) : t_Shelf_seals K { nx := fun _ H' => Q .non H', rt := Q } (L2.start ["self"] vs) H := by
  obtain ⟨Rs, a, room, st, rfl, S, hz, k⟩ := h
  show t_Shelf_seals K _ [some (V.ref a)] H
  obtain ⟨dx, c, b, es, rfl, ok, S1⟩ := shelf_open S
  walk_at "go"
  refine v_fld (S1.got 0 rfl) T.cl_Shelf T.na_Shelf_counts rfl ?_
  walk_at "go"
  refine v_sortDI S1 (S1.got 1 rfl) (cnts_keys es) (by unfold keysS; rw [List.length_map]; exact hz) fun p H2 S2 => ?_
  walk_at "go"
  exact k p H2 (opn_x ok S2)
theorem pure_Shelf_broken {K : PySem.W.Frag} (T : TxC K) (vs : List V) (H : Hp) (Q : VK) (E : XK) (h : sp_Shelf_broken K vs H Q E) : t_Shelf_broken K { nx := fun _ H' => Q .non H', rt := Q } (L2.start ["self", "seal"] vs) H := by
  obtain ⟨Rs, a, room, st, rfl, S, hz, k⟩ := h
  show t_Shelf_broken K _ [some (V.ref a), none] H
  obtain ⟨dx, c, b, es, rfl, ok, S1⟩ := shelf_open S
  walk_at "go"
  refine v_fld (S1.got 0 rfl) T.cl_Shelf T.na_Shelf_counts rfl ?_
  walk_at "go"
  have hl : (srt (keysS (es.map absE))).length ≤ 64 := by
    rw [(srt_perm _).length_eq]
    unfold keysS
    rw [List.length_map]
    omega
  refine v_sortDI S1 (S1.got 1 rfl) (cnts_keys es) (by unfold keysS; rw [List.length_map]; exact hz) fun p H2 S2 => ?_
  walk_at "go"
  refine v_itL (SqL.of (S2.got 0 rfl)) ?_
  refine lc_W walk_list S2 (fun i acc => acc = ((((srt (keysS (es.map absE))).take i).filter fun s => !soundB s ((getS (es.map absE) s).bind (·.2))).map V.int)) rfl (fun H S => SqL.of (S.got 0 rfl)) ?_ ?_
  · rintro i x acc D H3 H4 hi hp S3 ⟨rfl, hx⟩
    obtain ⟨n, hn, rfl⟩ := ints_get hx
    have hm : n ∈ keysS (es.map absE) := (srt_perm _).mem_iff.mp (List.mem_of_getElem? hn)
    obtain ⟨z, hz⟩ := Option.isSome_iff_exists.mp ((getS_isSome (s := n)).trans (decide_eq_true hm))
    rw [getE_abs] at hz
    obtain ⟨⟨x, o⟩, hg, _⟩ := Option.map_eq_some_iff.mp hz
    have hs := get_of hg
    have S4 : M (opn K a dx c b room es (pt D (.lst acc) :: pt p (.lst ((srt (keysS (es.map absE))).map V.int)) :: Rs)) H4 := M.sub (.cons 2 rfl (.cons 2 rfl (.cons 2 rfl (.cons 2 rfl (.cons 2 rfl (.refl _)))))) S3
    walk_at "go"
    refine v_meth (S4.got 0 rfl) rfl ?_
    walk_at "go"
    refine u_has_sound S4 ok hg fun H5 S5 => ?_
    have S6 : M (pt D (.lst acc) :: pt p (.lst ((srt (keysS (es.map absE))).map V.int)) :: opn K a dx c b room es Rs) H5 := M.sub (.cons 5 rfl (.cons 5 rfl (.refl _))) S5
    walk_at "go"
    cases eb : soundB n (o.map (·.2)) with
    | true =>
      walk_at "go"
      refine ⟨acc, ?_, S6⟩
      dsimp only
      rw [hp, take_more hn, List.filter_append, List.map_append]
      have : List.filter (fun s => !soundB s ((getS (es.map absE) s).bind (·.2))) [n] = [] := by
        rw [List.filter_cons_of_neg]
        · rfl
        · rw [hs]
          simp [eb]
      rw [this]
      simp
    | false =>
      walk_at "go"
      refine lc_next S6 0 rfl ?_ fun H6 S7 => ?_
      · rw [hp, List.length_map]
        have := List.length_filter_le (fun s => !soundB s ((getS (es.map absE) s).bind (·.2))) ((srt (keysS (es.map absE))).take i)
        rw [List.length_take] at this
        omega
      · refine ⟨_, ?_, S7⟩
        dsimp only
        rw [hp, take_more hn, List.filter_append, List.map_append]
        have : List.filter (fun s => !soundB s ((getS (es.map absE) s).bind (·.2))) [n] = [n] := by
          rw [List.filter_cons_of_pos]
          · rfl
          · rw [hs]
            simp [eb]
        rw [this]
        simp
  · rintro D acc H3 hp S3
    walk_at "go"
    rw [List.length_map, List.take_length] at hp
    rw [hp] at S3
    refine k D H3 (opn_x (dx := dx) (c := c) (b := b) ok ?_)
    exact M.sub (.cons 0 rfl (.tl (.refl _))) S3
/-! ### the law's own model: a dict from each seal to a list of how often and the body -/
abbrev ME := Int × Addr × Int × Option (Addr × List Int)
def absM (e : ME) : Ent3 := (e.1, e.2.2.1, e.2.2.2.map (·.2))
def kvM (es : List ME) : List (Key × V) := es.map fun e => (Sum.inl e.1, .ref e.2.1)
def cellM (e : ME) : Cell := (e.2.1, .lst [.int e.2.2.1, bodV e.2.2.2])
def celR (es : List ME) : Res := ⟨fun _ l => l = es.map cellM, fun _ _ _ _ h => h⟩
def bodM (es : List ME) : Res := ⟨fun F l => l = [] ∧ ∀ e ∈ es, ∀ q, e.2.2.2 = some q → F q.1 = some (.lst (q.2.map V.int)), fun _ _ _ x h => ⟨h.1, fun e he q hq => x _ _ (h.2 e he q hq)⟩⟩
def modelR (m : Addr) (room : Int) (st : Shst) : Res := exi fun (es : List ME) => prp (es.map absM = st ∧ ShOk room st) (sp2 (pt m (.dK (kvM es))) (sp2 (celR es) (bodM es)))
abbrev opM (m : Addr) (es : List ME) (Rs : List Res) : List Res := pt m (.dK (kvM es)) :: celR es :: bodM es :: Rs
theorem model_open {m : Addr} {room : Int} {st : Shst} {Rs : List Res} {H : Hp} (S : M (modelR m room st :: Rs) H) : ∃ es, es.map absM = st ∧ ShOk room st ∧ M (opM m es Rs) H := by
  obtain ⟨es, S⟩ := S.ex
  obtain ⟨⟨h1, h2⟩, S⟩ := S.pr
  have S2 := (S.sp.perm (.swap _ _ _)).sp
  exact ⟨es, h1, h2, M.sub (.cons 2 rfl (.cons 0 rfl (.cons 0 rfl (.refl _)))) S2⟩
theorem model_close {m : Addr} {room : Int} {st : Shst} {Rs : List Res} {H : Hp} {es : List ME} (h1 : es.map absM = st) (h2 : ShOk room st) (S : M (opM m es Rs) H) : M (modelR m room st :: Rs) H := by
  have S1 : M (celR es :: bodM es :: pt m (.dK (kvM es)) :: Rs) H := M.sub (.cons 1 rfl (.cons 1 rfl (.cons 0 rfl (.refl _)))) S
  exact M.ex' (T := fun (es : List ME) => prp (es.map absM = st ∧ ShOk room st) (sp2 (pt m (.dK (kvM es))) (sp2 (celR es) (bodM es)))) es (M.pr' ⟨h1, h2⟩ (S1.sp'.perm (.swap _ _ _)).sp')
def getM (es : List ME) (s : Int) : Option (Addr × Int × Option (Addr × List Int)) := (es.find? fun e => decide (e.1 = s)).map (·.2)
theorem getM_cons (e : ME) (r : List ME) (s : Int) : getM (e :: r) s = if e.1 = s then some e.2 else getM r s := by
  unfold getM
  by_cases h : e.1 = s
  · rw [if_pos h, List.find?_cons_of_pos (by simpa using h)]
    rfl
  · rw [if_neg h, List.find?_cons_of_neg (by simpa using h)]
theorem getM_abs (s : Int) : ∀ es : List ME, getS (es.map absM) s = (getM es s).map fun x => (x.2.1, x.2.2.map (·.2))
  | [] => rfl
  | e :: r => by
    rw [List.map_cons, getS_cons, getM_cons]
    show (if e.1 = s then some (absM e).2 else _) = _
    split
    · rfl
    · exact getM_abs s r
theorem getM_mem {es : List ME} {s : Int} {x : Addr × Int × Option (Addr × List Int)} (h : getM es s = some x) : (s, x) ∈ es := by
  unfold getM at h
  obtain ⟨e, h1, h2⟩ := Option.map_eq_some_iff.mp h
  have h3 := List.find?_some h1
  have h4 := List.mem_of_find?_eq_some h1
  have h5 : e.1 = s := by simpa using h3
  subst h5
  subst h2
  exact h4
theorem val_kvM (s : Int) : ∀ es : List ME, valV (kvM es) (Sum.inl s) = (getM es s).map fun x => .ref x.1
  | [] => rfl
  | e :: r => by
    rw [getM_cons]
    show valV ((Sum.inl e.1, V.ref e.2.1) :: kvM r) (Sum.inl s) = _
    by_cases h : e.1 = s
    · rw [if_pos h, valV_pos (by rw [h])]
      rfl
    · rw [if_neg h, valV_neg (fun z => h (Sum.inl.inj z)), val_kvM s r]
theorem kvM_len (es : List ME) : (kvM es).length = es.length := by simp [kvM]
theorem kvM_keys (es : List ME) : (kvM es).map (·.1) = (keysS (es.map absM)).map Sum.inl := by
  unfold kvM keysS
  rw [List.map_map, List.map_map, List.map_map]
  rfl
theorem keysM (es : List ME) : keysS (es.map absM) = es.map (·.1) := by
  unfold keysS
  rw [List.map_map]
  rfl
theorem cel_at {es : List ME} {s : Int} {p : Addr} {c : Int} {o : Option (Addr × List Int)} {Rs : List Res} {H : Hp} (S : M Rs H) (i : Nat) (e : Rs[i]? = some (celR es)) (h : getM es s = some (p, c, o)) : H p = some (.lst [.int c, bodV o]) := by
  obtain ⟨F, L, ⟨l1, l2, rfl, rfl, b⟩, m⟩ := S.at i e
  exact (m.own _ (List.mem_append_left _ (List.mem_map.mpr ⟨_, getM_mem h, rfl⟩))).1
theorem bodM_at {es : List ME} {s : Int} {p q : Addr} {c : Int} {ns : List Int} {Rs : List Res} {H : Hp} (S : M Rs H) (i : Nat) (e : Rs[i]? = some (bodM es)) (h : getM es s = some (p, c, some (q, ns))) : H q = some (.lst (ns.map V.int)) := by
  obtain ⟨F, L, ⟨l3, l4, rfl, ⟨_, e⟩, b⟩, m⟩ := S.at i e
  exact m.ex _ _ (e _ (getM_mem h) _ rfl)
theorem splitM {s : Int} {x : Addr × Int × Option (Addr × List Int)} : ∀ {es : List ME}, getM es s = some x → ∃ l1 l2, es = l1 ++ (s, x) :: l2 ∧ getM l1 s = none
  | [], h => by cases h
  | e :: r, h => by
    rw [getM_cons] at h
    by_cases hk : e.1 = s
    · rw [if_pos hk] at h
      cases h
      subst hk
      exact ⟨[], r, rfl, rfl⟩
    · rw [if_neg hk] at h
      obtain ⟨l1, l2, rfl, h2⟩ := splitM h
      exact ⟨e :: l1, l2, rfl, by rw [getM_cons, if_neg hk]; exact h2⟩
/-- one cell by itself -/
theorem cel_out {l1 l2 : List ME} {e : ME} {Rs : List Res} {H : Hp} (S : M (celR (l1 ++ e :: l2) :: Rs) H) : M (pt e.2.1 (.lst [.int e.2.2.1, bodV e.2.2.2]) :: celR (l1 ++ l2) :: Rs) H := by
  obtain ⟨F, L, ⟨a1, a2, rfl, rfl, b⟩, m⟩ := S
  have p : ((l1 ++ e :: l2).map cellM).Perm (cellM e :: (l1 ++ l2).map cellM) := by
    rw [List.map_append, List.map_cons, List.map_append]
    exact List.perm_middle
  exact ⟨F, _, ⟨[cellM e], (l1 ++ l2).map cellM ++ a2, rfl, rfl, (l1 ++ l2).map cellM, a2, rfl, rfl, b⟩, m.perm (p.append_right a2)⟩
theorem cel_in {l1 l2 : List ME} {e : ME} {Rs : List Res} {H : Hp} (S : M (pt e.2.1 (.lst [.int e.2.2.1, bodV e.2.2.2]) :: celR (l1 ++ l2) :: Rs) H) : M (celR (l1 ++ e :: l2) :: Rs) H := by
  obtain ⟨F, L, ⟨a1, a2, rfl, rfl, a3, a4, rfl, rfl, b⟩, m⟩ := S
  have p : ((l1 ++ e :: l2).map cellM).Perm (cellM e :: (l1 ++ l2).map cellM) := by
    rw [List.map_append, List.map_cons, List.map_append]
    exact List.perm_middle
  exact ⟨F, _, ⟨(l1 ++ e :: l2).map cellM, a4, rfl, rfl, b⟩, m.perm (p.append_right a4).symm⟩
theorem nd_split {l1 l2 : List ME} {e : ME} (h : ((l1 ++ e :: l2).map (·.1)).Nodup) : (∀ q ∈ l1, q.1 ≠ e.1) ∧ ∀ q ∈ l2, q.1 ≠ e.1 := by
  rw [List.map_append, List.map_cons, List.nodup_append] at h
  obtain ⟨h1, h2, h3⟩ := h
  refine ⟨fun q hq z => ?_, fun q hq z => ?_⟩
  · exact h3 q.1 (List.mem_map.mpr ⟨q, hq, rfl⟩) e.1 List.mem_cons_self z
  · exact (List.nodup_cons.mp h2).1 (List.mem_map.mpr ⟨q, hq, z⟩)
theorem set_split {l1 l2 : List ME} {s : Int} {x : Addr × Int × Option (Addr × List Int)} {y : Int × Option (List Int)} (h : ((l1 ++ (s, x) :: l2).map (·.1)).Nodup) : setS ((l1 ++ (s, x) :: l2).map absM) s y = l1.map absM ++ (s, y) :: l2.map absM := by
  obtain ⟨h1, h2⟩ := nd_split h
  have hg : (getS ((l1 ++ (s, x) :: l2).map absM) s).isSome = true := by
    rw [getS_isSome, keysM]
    exact decide_eq_true (by rw [List.map_append]; simp)
  unfold setS
  rw [if_pos hg, List.map_append, List.map_cons, List.map_append, List.map_cons, List.map_map, List.map_map]
  congr 1
  · refine List.map_congr_left fun q hq => ?_
    show (if q.1 = s then (s, y) else absM q) = absM q
    rw [if_neg (h1 q hq)]
  · congr 1
    · show (if s = s then (s, y) else _) = (s, y)
      rw [if_pos rfl]
    · refine List.map_congr_left fun q hq => ?_
      show (if q.1 = s then (s, y) else absM q) = absM q
      rw [if_neg (h2 q hq)]
theorem put_split {l1 l2 : List ME} {s : Int} {x : Addr × Int × Option (Addr × List Int)} {p : Addr} (h : ((l1 ++ (s, x) :: l2).map (·.1)).Nodup) : putK (kvM (l1 ++ (s, x) :: l2)) (Sum.inl s) (.ref p) = kvM (l1 ++ (s, p, x.2) :: l2) := by
  obtain ⟨h1, h2⟩ := nd_split h
  have hg : ((kvM (l1 ++ (s, x) :: l2)).any fun kv => decide (kv.1 = (Sum.inl s : Key))) = true := by
    rw [List.any_eq_true]
    exact ⟨(Sum.inl s, .ref x.1), List.mem_map.mpr ⟨(s, x), by simp, rfl⟩, by simp⟩
  unfold putK
  rw [if_pos hg]
  unfold kvM
  rw [List.map_append, List.map_cons, List.map_append, List.map_cons, List.map_append, List.map_cons, List.map_map, List.map_map]
  congr 1
  · refine List.map_congr_left fun q hq => ?_
    show (if (Sum.inl q.1 : Key) = Sum.inl s then ((Sum.inl q.1 : Key), V.ref p) else (Sum.inl q.1, .ref q.2.1)) = (Sum.inl q.1, .ref q.2.1)
    rw [if_neg fun z => h1 q hq (Sum.inl.inj z)]
  · congr 1
    · simp
    · refine List.map_congr_left fun q hq => ?_
      show (if (Sum.inl q.1 : Key) = Sum.inl s then ((Sum.inl q.1 : Key), V.ref p) else (Sum.inl q.1, .ref q.2.1)) = (Sum.inl q.1, .ref q.2.1)
      rw [if_neg fun z => h2 q hq (Sum.inl.inj z)]
theorem put_newM {es : List ME} {s c : Int} {o : Option (Addr × List Int)} {p : Addr} (h : getM es s = none) : putK (kvM es) (Sum.inl s) (.ref p) = kvM (es ++ [(s, p, c, o)]) := by
  unfold putK
  rw [any_val, val_kvM, h]
  simp [kvM]
theorem drop_split {l1 l2 : List ME} {s : Int} {x : Addr × Int × Option (Addr × List Int)} (h : ((l1 ++ (s, x) :: l2).map (·.1)).Nodup) : dropK (kvM (l1 ++ (s, x) :: l2)) (Sum.inl s) = kvM (l1 ++ l2) ∧ delS ((l1 ++ (s, x) :: l2).map absM) s = (l1 ++ l2).map absM := by
  obtain ⟨h1, h2⟩ := nd_split h
  have key : ∀ l : List ME, (∀ q ∈ l, q.1 ≠ s) → dropK (kvM l) (Sum.inl s) = kvM l ∧ delS (l.map absM) s = l.map absM := by
    intro l hl
    refine ⟨List.filter_eq_self.mpr fun q hq => ?_, List.filter_eq_self.mpr fun q hq => ?_⟩
    · obtain ⟨e, he, rfl⟩ := List.mem_map.mp hq
      exact decide_eq_true fun z => hl e he (Sum.inl.inj z)
    · obtain ⟨e, he, rfl⟩ := List.mem_map.mp hq
      exact decide_eq_true (hl e he)
  obtain ⟨a1, a2⟩ := key l1 h1
  obtain ⟨b1, b2⟩ := key l2 h2
  refine ⟨?_, ?_⟩
  · unfold kvM dropK at *
    rw [List.map_append, List.map_cons, List.filter_append, List.filter_cons_of_neg (by simp), a1, b1, List.map_append]
  · unfold delS at *
    rw [List.map_append, List.map_cons, List.filter_append, List.filter_cons_of_neg (by simp [absM]), a2, b2, List.map_append]
/-- the bodies stand as they did, of other entries -/
theorem bodM_of {es es' : List ME} {Rs : List Res} {H : Hp} (h : ∀ e ∈ es', ∀ q, e.2.2.2 = some q → ∃ e2 ∈ es, e2.2.2.2 = some q) (S : M (bodM es :: Rs) H) : M (bodM es' :: Rs) H := by
  obtain ⟨F, L, ⟨l3, l4, rfl, ⟨rfl, e⟩, b⟩, m⟩ := S
  refine ⟨F, l4, ⟨[], l4, rfl, ⟨rfl, fun x hx q hq => ?_⟩, b⟩, m⟩
  obtain ⟨e2, h2, h3⟩ := h x hx q hq
  exact e e2 h2 q h3
theorem bodM_new {es es' : List ME} {p : Addr} {ns : List Int} {Rs : List Res} {H : Hp} (h : ∀ e ∈ es', ∀ q, e.2.2.2 = some q → q = (p, ns) ∨ ∃ e2 ∈ es, e2.2.2.2 = some q) (S : M (pt p (.lst (ns.map V.int)) :: bodM es :: Rs) H) : M (bodM es' :: Rs) H := by
  obtain ⟨F, L, ⟨l1, l2, rfl, ⟨rfl, e0⟩, l3, l4, rfl, ⟨rfl, e⟩, b⟩, m⟩ := S.fix
  refine ⟨F, l4, ⟨[], l4, rfl, ⟨rfl, fun x hx q hq => ?_⟩, b⟩, m⟩
  rcases h x hx q hq with rfl | ⟨e2, h2, h3⟩
  · exact e0
  · exact e e2 h2 q h3
theorem getM_of {es : List ME} {s c : Int} {p : Addr} {o : Option (Addr × List Int)} (h : getM es s = some (p, c, o)) : getS (es.map absM) s = some (c, o.map (·.2)) := by
  rw [getM_abs, h]
  rfl
theorem bdM {room : Int} {es : List ME} {s c : Int} {p : Addr} {o : Option (Addr × List Int)} (ok : ShOk room (es.map absM)) (h : getM es s = some (p, c, o)) : (∀ ns, o.map (·.2) = some ns → ns.length ≤ 16 ∧ ∀ n ∈ ns, 0 ≤ n ∧ n ≤ 999) ∧ 1 ≤ c ∧ (backN s).isSome = true := by
  have hm := getS_mem (getM_of h)
  exact ⟨fun ns z => ok.bd _ hm ns z, ok.ct _ hm, ok.sl _ hm⟩
theorem lenM {room : Int} {es : List ME} (ok : ShOk room (es.map absM)) : es.length ≤ 400 := by
  have h1 := ok.le
  have h2 := ok.r2
  rw [List.length_map] at h1
  omega
/-! ### data out of what was made -/
theorem M.dat0 {K : PySem.W.Frag} {Rs : List Res} {H : Hp} {x : V} {d : PyData} (h : ∀ F, Dp K F x d) (S : M Rs H) : M (dt K x d :: Rs) H := by
  obtain ⟨F, L, s, m⟩ := S
  exact ⟨F, L, ⟨[], L, rfl, ⟨rfl, h F⟩, s⟩, m⟩
theorem M.dat2 {K : PySem.W.Frag} {Rs : List Res} {H : Hp} {t : Addr} {w : Str} {x : V} {d : PyData} (S : M (pt t (.tup [.str w, x]) :: dt K x d :: Rs) H) : M (dt K (.ref t) (.tuple [.str w, d]) :: Rs) H := by
  obtain ⟨F, L, ⟨l1, l2, rfl, ⟨rfl, e1⟩, l3, l4, rfl, ⟨rfl, e2⟩, b⟩, m⟩ := S.fix
  exact ⟨F, l4, ⟨[], l4, rfl, ⟨rfl, .tup (SqT.of e1) (.cons (.str w) (.cons e2 .nil))⟩, b⟩, m⟩
theorem M.dat2s {K : PySem.W.Frag} {Rs : List Res} {H : Hp} {t : Addr} {w : Str} {x : V} {d : PyData} (h : ∀ F, Dp K F x d) (S : M (pt t (.tup [.str w, x]) :: Rs) H) : M (dt K (.ref t) (.tuple [.str w, d]) :: Rs) H :=
  M.dat2 ((M.dat0 h S).perm (.swap _ _ _))
theorem M.dat2l {K : PySem.W.Frag} {Rs : List Res} {H : Hp} {t p : Addr} {w : Str} {ns : List Int} (S : M (pt t (.tup [.str w, .ref p]) :: pt p (.lst (ns.map V.int)) :: Rs) H) : M (dt K (.ref t) (.tuple [.str w, dI ns]) :: Rs) H :=
  M.dat2 ((M.fixI (K := K) (S.perm (.swap _ _ _))).perm (.swap _ _ _))
/-! ### the law's own looks and its model's deeds -/
def betwV (lo hi : Int) : V → Bool
  | .int n => decide (lo ≤ n ∧ n ≤ hi)
  | _ => false
theorem betwV_oth {K : PySem.W.Frag} {H : Hp} {v : V} {th : Thing} {lo hi : Int} (h : Thg K H v th) (e : th.isInt = false) : betwV lo hi v = false := by
  cases h with
  | int n => cases e
  | lst h => rfl
  | @oth v t h ht =>
    cases v with
    | int n =>
      cases h with
      | base b =>
        cases b
        simp at ht
    | _ => rfl
def sp_l_whole (K : PySem.W.Frag) : Sp := fun vs H Q _ => ∃ (v : V) (th : Thing) (lo hi : Int), vs = [v, .int lo, .int hi] ∧ Thg K H v th ∧ Q (.bl (betwV lo hi v)) H
theorem len_l_whole {K : PySem.W.Frag} (vs : List V) (H : Hp) (Q : VK) (E : XK) (h : sp_l_whole K vs H Q E) : vs.length = 3 := by
  obtain ⟨v, th, lo, hi, rfl, _⟩ := h
  rfl
def sp_l_are_signs (K : PySem.W.Frag) : Sp := fun vs H Q _ => ∃ (Rs : List Res) (v : V) (th : Thing) (lo hi : Int), vs = [v, .int lo, .int hi] ∧ M Rs H ∧ ThE K Rs v th ∧ hi ≤ 1000 ∧ ∀ H', M Rs H' → Q (.bl (signsT lo hi th).isSome) H'
theorem len_l_are_signs {K : PySem.W.Frag} (vs : List V) (H : Hp) (Q : VK) (E : XK) (h : sp_l_are_signs K vs H Q E) : vs.length = 3 := by
  obtain ⟨Rs, v, th, lo, hi, rfl, _⟩ := h
  rfl
def sp_l_is_seal (K : PySem.W.Frag) : Sp := fun vs H Q _ => ∃ (Rs : List Res) (v : V) (th : Thing), vs = [v] ∧ M Rs H ∧ ThE K Rs v th ∧ ∀ H', M Rs H' → Q (.bl (sealT th).isSome) H'
theorem len_l_is_seal {K : PySem.W.Frag} (vs : List V) (H : Hp) (Q : VK) (E : XK) (h : sp_l_is_seal K vs H Q E) : vs.length = 1 := by
  obtain ⟨Rs, v, th, rfl, _⟩ := h
  rfl
def sp_l_sound (K : PySem.W.Frag) : Sp := fun vs H Q _ => ∃ (Rs : List Res) (m : Addr) (es : List ME) (room n c : Int) (p : Addr) (o : Option (Addr × List Int)), vs = [.ref m, .int n] ∧ M (opM m es Rs) H ∧ ShOk room (es.map absM) ∧ getM es n = some (p, c, o) ∧
  ∀ H', M (opM m es Rs) H' → Q (.bl (soundB n (o.map (·.2)))) H'
theorem len_l_sound {K : PySem.W.Frag} (vs : List V) (H : Hp) (Q : VK) (E : XK) (h : sp_l_sound K vs H Q E) : vs.length = 2 := by
  obtain ⟨Rs, m, es, room, n, c, p, o, rfl, _⟩ := h
  rfl
/-- what is told is data, the model stands as it is due -/
def OutM (K : PySem.W.Frag) (m : Addr) (room : Int) (st : Shst) (Rs : List Res) (o : Oc) (Q : VK) : Prop := ∀ x H', M (dt K x o.dat :: modelR m room (o.st st) :: Rs) H' → Q x H'
def sp_l_laid (K : PySem.W.Frag) : Sp := fun vs H Q _ => ∃ (Rs : List Res) (m : Addr) (room : Int) (st : Shst) (v : V) (th : Thing), vs = [.ref m, .int room, v] ∧ M (modelR m room st :: Rs) H ∧ ThE K Rs v th ∧ OutM K m room st Rs (layF room st th) Q
theorem len_l_laid {K : PySem.W.Frag} (vs : List V) (H : Hp) (Q : VK) (E : XK) (h : sp_l_laid K vs H Q E) : vs.length = 3 := by
  obtain ⟨Rs, m, room, st, v, th, rfl, _⟩ := h
  rfl
def sp_l_due (K : PySem.W.Frag) : Sp := fun vs H Q _ => ∃ (Rs : List Res) (m : Addr) (room way : Int) (st : Shst) (v u : V) (th tu : Thing), vs = [.ref m, .int room, .int way, v, u] ∧ 0 ≤ way ∧ way ≤ 8 ∧ (way = 4 → ∃ xs, tu = .lst xs) ∧ M (modelR m room st :: Rs) H ∧ ThE K Rs v th ∧ ThE K Rs u tu ∧
  OutM K m room st Rs (deedF room st way th tu) Q
theorem len_l_due {K : PySem.W.Frag} (vs : List V) (H : Hp) (Q : VK) (E : XK) (h : sp_l_due K vs H Q E) : vs.length = 5 := by
  obtain ⟨Rs, m, room, way, st, v, u, th, tu, rfl, _⟩ := h
  rfl
/-- the shelf's door: what it tells, or the refusal -/
def sp_l_deed (K : PySem.W.Frag) : Sp := fun vs H Q E => ∃ (Rs : List Res) (a : Addr) (room way : Int) (st : Shst) (v u : V) (th tu : Thing), vs = [.ref a, .int way, v, u] ∧ 0 ≤ way ∧ way ≤ 8 ∧ M (shelfR K a room st :: Rs) H ∧ ThE K Rs v th ∧ ThE K Rs u tu ∧
  OutX K a room st Rs (deedF room st way th tu) Q E
theorem len_l_deed {K : PySem.W.Frag} (vs : List V) (H : Hp) (Q : VK) (E : XK) (h : sp_l_deed K vs H Q E) : vs.length = 4 := by
  obtain ⟨Rs, a, room, way, st, v, u, th, tu, rfl, _⟩ := h
  rfl
def sp_l_refusal (K : PySem.W.Frag) : Addr → Value → Option Addr → Hp → VK → Prop := fun _ cls d H Q => ∃ (Rs : List Res) (dd : Addr) (r : Rf), cls = .ref (He.ga K r.cls) ∧ d = some dd ∧ M (pt dd (.xd [(r.fld, .int r.val)]) :: Rs) H ∧
  ∀ x H', M (dt K x (.tuple [.str r.word, .int r.val]) :: Rs) H' → Q x H'
def sp_l_said (K : PySem.W.Frag) : Sp := fun vs H Q _ => ∃ (Rs : List Res) (a : Addr) (room way : Int) (st : Shst) (v u : V) (th tu : Thing), vs = [.ref a, .int way, v, u] ∧ 0 ≤ way ∧ way ≤ 8 ∧ M (shelfR K a room st :: Rs) H ∧ ThE K Rs v th ∧ ThE K Rs u tu ∧
  ∀ x H', M (dt K x (deedF room st way th tu).dat :: shelfR K a room ((deedF room st way th tu).st st) :: Rs) H' → Q x H'
theorem len_l_said {K : PySem.W.Frag} (vs : List V) (H : Hp) (Q : VK) (E : XK) (h : sp_l_said K vs H Q E) : vs.length = 4 := by
  obtain ⟨Rs, a, room, way, st, v, u, th, tu, rfl, _⟩ := h
  rfl
/-- all that is told of a shelf -/
def statD (room : Int) (st : Shst) : PyData := .list ([dI (srt (keysS st)), dI (badS st), .int (room - st.length), .int st.length] ++
  (srt (keysS st)).map fun s => .list [(heldF st (.int s)).dat, (isF st (.int s)).dat, (readF st (.int s)).dat])
def sp_l_state (K : PySem.W.Frag) : Sp := fun vs H Q _ => ∃ (Rs : List Res) (a : Addr) (room : Int) (st : Shst), vs = [.ref a] ∧ M (shelfR K a room st :: Rs) H ∧ st.length < 64 ∧ ∀ x H', M (dt K x (statD room st) :: shelfR K a room st :: Rs) H' → Q x H'
theorem len_l_state {K : PySem.W.Frag} (vs : List V) (H : Hp) (Q : VK) (E : XK) (h : sp_l_state K vs H Q E) : vs.length = 1 := by
  obtain ⟨Rs, a, room, st, rfl, _⟩ := h
  rfl
def sp_l_state_due (K : PySem.W.Frag) : Sp := fun vs H Q _ => ∃ (Rs : List Res) (m : Addr) (room : Int) (st : Shst), vs = [.ref m, .int room] ∧ M (modelR m room st :: Rs) H ∧ st.length < 64 ∧ ∀ x H', M (dt K x (statD room st) :: modelR m room st :: Rs) H' → Q x H'
theorem len_l_state_due {K : PySem.W.Frag} (vs : List V) (H : Hp) (Q : VK) (E : XK) (h : sp_l_state_due K vs H Q E) : vs.length = 2 := by
  obtain ⟨Rs, m, room, st, rfl, _⟩ := h
  rfl
abbrev t_l_whole (K : PySem.W.Frag) : TS := (tRet (tAndV (tCB (rIsi K) (tCons (tVar 0) (tCons (tC (.ty "int")) tNil))) (tAndV (tNotV (tCB (rIsi K) (tCons (tVar 0) (tCons (tC (.ty "bool")) tNil)))) (tChain uLe uLe (tVar 1) (tVar 0) (tVar 2)))))
abbrev t_l_are_signs_1 (K : PySem.W.Frag) : TS := (tSeq (tIfS (tOr (tNot (tB (tCB (rIsi K) (tCons (tVar 0) (tCons (tC (.ty "list")) tNil))))) (tNot (tTest (tChain uLe uLe (tVar 1) (tCB (uLen K) (tCons (tVar 0) tNil)) (tVar 2))))) (tRet (tC (.bl false))) tNext)
  (tRet (tOp (uEq K) (tLc (iList K (tVar 0)) (gName 3) (tNot (tB (tCall (sp_l_whole K) [] E0 (tCons (tVar 3) (tCons (tC (.int 0)) (tCons (tC (.int 999)) tNil)))))) (tVar 3) [3]) (tLst tNil))))
abbrev t_l_are_signs (K : PySem.W.Frag) : TS := (t_l_are_signs_1 K)
abbrev t_l_is_seal (K : PySem.W.Frag) : TS := (tRet (tAndV (tCall (sp_l_whole K) [] E0 (tCons (tVar 0) (tCons (tC (.int 1)) (tCons (tOp uPow (tC (.int 1001)) (tC (.int 17))) tNil)))) (tOp rNotN (tCall (sp_l_back K) [] E0 (tCons (tVar 0) tNil)) (tC .non))))
theorem pure_l_whole {K : PySem.W.Frag} (vs : List V) (H : Hp) (Q : VK) (E : XK) (h : sp_l_whole K vs H Q E) : t_l_whole K { nx := fun _ H' => Q .non H', rt := Q } (L2.start ["_law_thing", "_law_low", "_law_high"] vs) H := by
  obtain ⟨v, th, lo, hi, rfl, ht, k⟩ := h
  show t_l_whole K _ [some v, some (.int lo), some (.int hi)] H
  walk_at "go"
  refine thg_int ht (fun e _ => ?_) (fun b e hb => ?_)
  · cases ht with
    | int n =>
      walk_at "go"
      refine thg_notbool ?_
      walk_at "go"
      refine v_ifD (fun h => ?_) (fun h => ?_)
      · walk_at "go"
        have e : decide (lo ≤ n ∧ n ≤ hi) = decide (n ≤ hi) := decide_eq_decide.mpr ⟨fun z => z.2, fun z => ⟨h, z⟩⟩
        rw [← e]
        exact k
      · walk_at "go"
        have e : decide (lo ≤ n ∧ n ≤ hi) = false := decide_eq_false fun z => h z.1
        have e3 : betwV lo hi (.int n) = false := e
        rw [e3] at k
        exact k
    | lst h => cases e
    | oth h ht => cases e
  · rw [betwV_oth ht e] at k
    cases b with
    | false =>
      walk_at "go"
      exact k
    | true =>
      walk_at "go"
      refine hb rfl _ ?_
      walk_at "go"
      exact k
theorem sgnV_eq (v : V) : (sgnV v).isSome = betwV 0 999 v := by
  cases v with
  | int n =>
    unfold sgnV betwV
    dsimp only
    by_cases h : 0 ≤ n ∧ n ≤ 999
    · rw [if_pos h, decide_eq_true h]
      rfl
    · rw [if_neg h, decide_eq_false h]
      rfl
  | _ => rfl
theorem sgnsV_filter : ∀ xs : List V, (sgnsV xs).isSome = decide (xs.filter (fun v => !(sgnV v).isSome) = [])
  | [] => rfl
  | v :: r => by
    have ih := sgnsV_filter r
    show (match sgnV v, sgnsV r with | some n, some ns => some (n :: ns) | _, _ => none).isSome = _
    cases h : sgnV v with
    | none =>
      rw [List.filter_cons_of_pos (by rw [h]; rfl)]
      simp
    | some n =>
      rw [List.filter_cons_of_neg (by rw [h]; simp), ← ih]
      cases sgnsV r <;> rfl
theorem dat_items {K : PySem.W.Frag} {H : Hp} : ∀ {xs : List V}, (∀ x ∈ xs, ∃ d, Dp K H x d ∧ d.canLay0 = true ∧ d.depth ≤ 9) → ∃ ds, DpAll K H xs ds ∧ PyData.canLayAll0 ds = true ∧ PyData.depthAll ds ≤ 9 ∧ (ds = [] ↔ xs = [])
  | [], _ => ⟨[], .nil, rfl, by simp [PyData.depthAll], by simp⟩
  | x :: xs, h => by
    obtain ⟨d, h1, h2, h3⟩ := h x List.mem_cons_self
    obtain ⟨ds, g1, g2, g3, _⟩ := dat_items (xs := xs) fun y hy => h y (List.mem_cons_of_mem _ hy)
    refine ⟨d :: ds, .cons h1 g1, by simp [PyData.canLayAll0, h2, g2], ?_, by simp⟩
    simp only [PyData.depthAll]
    omega
/-- a list and the empty one -/
theorem v_eqNil {K : PySem.W.Frag} {H : Hp} {Q : VK} {a b : Addr} {xs : List V} (h1 : SqL K H a xs) (h2 : SqL K H b []) (hd : ∀ x ∈ xs, ∃ d, Dp K H x d ∧ d.canLay0 = true ∧ d.depth ≤ 9) (k : Q (.bl (decide (xs = []))) H) : uEq K (.ref a) (.ref b) H Q := by
  obtain ⟨ds, g1, g2, g3, g4⟩ := dat_items hd
  refine v_eqD (d := .list ds) (e := .list []) (.lst h1 g1) (.lst h2 .nil) ?_ (shaped_ints []) ?_
  · unfold SeqAt.shaped
    simp only [PyData.canLay0, PyData.depth, g2, Bool.true_and]
    exact decide_eq_true (by omega)
  · have e : PyData.eqv (.list ds) (.list []) = decide (xs = []) := by
      have e1 : decide (xs = []) = decide (ds = []) := decide_eq_decide.mpr g4.symm
      rw [e1]
      cases ds <;> rfl
    rw [e]
    exact k
theorem pure_l_are_signs {K : PySem.W.Frag} (vs : List V) (H : Hp) (Q : VK) (E : XK) (h : sp_l_are_signs K vs H Q E) : t_l_are_signs K { nx := fun _ H' => Q .non H', rt := Q } (L2.start ["_law_thing", "_law_fewest", "_law_many", "_law_one"] vs) H := by
  obtain ⟨Rs, v, th, lo, hi, rfl, S, hth, hh, k⟩ := h
  show t_l_are_signs K _ [some v, some (.int lo), some (.int hi), none] H
  walk_at "go"
  have ht := hth.at_ H S
  refine thg_lst ht ?_
  cases ht with
  | int n =>
    dsimp only [Thing.isLst]
    walk_at "go"
    exact k H S
  | oth h ht =>
    dsimp only [Thing.isLst]
    walk_at "go"
    exact k H S
  | @lst a xs h =>
    dsimp only [Thing.isLst]
    walk_at "go"
    refine v_ifD (fun h1 => ?_) (fun h1 => ?_)
    · walk_at "go"
      by_cases h2 : (xs.length : Int) ≤ hi
      · rw [decide_eq_true h2]
        walk_at "go"
        have es : signsT lo hi (.lst xs) = sgnsV xs := if_pos ⟨h1, h2⟩
        rw [es] at k
        refine v_itL h ?_
        refine lc_W walk_list S (fun i acc => acc = (xs.take i).filter fun v => !(sgnV v).isSome) rfl (fun H S => thg_sq (hth.at_ H S)) ?_ ?_
        · rintro i x acc D H1 H2 hi2 hp S1 ⟨rfl, hx⟩
          obtain ⟨tx, htx, _⟩ := hth.it _ S1.tl x (List.mem_of_getElem? hx)
          walk_at "go"
          refine ⟨x, tx, 0, 999, rfl, htx, ?_⟩
          rw [← sgnV_eq]
          walk_at "go"
          cases e : (sgnV x).isSome with
          | true =>
            walk_at "go"
            refine ⟨acc, ?_, S1⟩
            dsimp only
            rw [hp, take_more hx, List.filter_append, List.filter_cons_of_neg (by rw [e]; simp)]
            simp
          | false =>
            walk_at "go"
            refine lc_next S1 0 rfl ?_ fun H3 S3 => ⟨_, ?_, S3⟩
            · rw [hp]
              have := List.length_filter_le (fun v => !(sgnV v).isSome) (xs.take i)
              rw [List.length_take] at this
              omega
            · dsimp only
              rw [hp, take_more hx, List.filter_append, List.filter_cons_of_pos (by rw [e]; rfl)]
              rfl
        · rintro D acc H1 hp S1
          walk_at "go"
          rw [List.take_length] at hp
          refine v_lst S1 (by simp) fun em H2 S2 => ?_
          refine v_eqNil (SqL.of (S2.got 1 rfl)) (SqL.of (S2.got 0 rfl)) (fun x hx => ?_) ?_
          · rw [hp] at hx
            obtain ⟨tx, _, d, h⟩ := hth.it _ S2.tl.tl x (List.mem_filter.mp hx).1
            exact ⟨d, h⟩
          · rw [hp, ← sgnsV_filter]
            walk_at "go"
            exact k H2 S2.tl.tl
      · rw [decide_eq_false h2]
        walk_at "go"
        have es : signsT lo hi (.lst xs) = none := if_neg fun z => h2 z.2
        rw [es] at k
        exact k H S
    · walk_at "go"
      have es : signsT lo hi (.lst xs) = none := if_neg fun z => h1 z.1
      rw [es] at k
      exact k H S
theorem back_big {n : Int} (h : ¬ (1 ≤ n ∧ n ≤ 1001 ^ 17)) : backN n = none := by
  by_cases h1 : 0 < n
  · have h2 : 1001 ^ 17 < n := by omega
    have key : ∀ (k : Nat) (r : Int), 1001 ^ k < r → k < (digsI r).length := by
      intro k
      induction k with
      | zero => intro r hr; exact digsI_ne (by have : (1001 : Int) ^ 0 = 1 := rfl; omega)
      | succ k ih =>
        intro r hr
        have e : (1001 : Int) ^ (k + 1) = 1001 ^ k * 1001 := Int.pow_succ ..
        have hp : (0 : Int) < 1001 ^ k := Int.pow_pos (by decide)
        have h3 : 0 < r := by omega
        rw [digsI_pos h3, List.length_cons]
        by_cases h4 : 1001 ^ k < r / 1001
        · have := ih _ h4
          omega
        · have h5 : r / 1001 = 1001 ^ k := by omega
          have h6 : r < 1001 ^ k * 1001 + 1001 := by omega
          have h7 : ∀ j : Nat, j < (digsI ((1001 : Int) ^ j)).length := by
            intro j
            induction j with
            | zero => exact digsI_ne (by decide)
            | succ j ih2 =>
              have e2 : (1001 : Int) ^ (j + 1) = 1001 ^ j * 1001 := Int.pow_succ ..
              have hp2 : (0 : Int) < 1001 ^ j := Int.pow_pos (by decide)
              rw [digsI_pos (by omega), List.length_cons]
              have e3 : (1001 : Int) ^ (j + 1) / 1001 = 1001 ^ j := by omega
              rw [e3]
              omega
          rw [h5]
          have := h7 k
          omega
    have := key 17 n h2
    unfold backN
    exact if_pos (Or.inr (Or.inl (by omega)))
  · unfold backN
    exact if_pos (Or.inl (digsI_no h1))
theorem pure_l_is_seal {K : PySem.W.Frag} (vs : List V) (H : Hp) (Q : VK) (E : XK) (h : sp_l_is_seal K vs H Q E) : t_l_is_seal K { nx := fun _ H' => Q .non H', rt := Q } (L2.start ["_law_thing"] vs) H := by
  obtain ⟨Rs, v, th, rfl, S, hth, k⟩ := h
  show t_l_is_seal K _ [some v] H
  have ht := hth.at_ H S
  walk_at "go"
  refine ⟨v, th, 1, 1001 ^ 17, rfl, ht, ?_⟩
  cases ht with
  | lst h =>
    rw [betwV_oth (.lst h) rfl]
    walk_at "go"
    exact k H S
  | oth h ht =>
    rw [betwV_oth (.oth h ht) rfl]
    walk_at "go"
    exact k H S
  | int n =>
    have es : (sealT (.int n)).isSome = (backN n).isSome := by
      unfold sealT
      dsimp only
      cases (backN n).isSome <;> rfl
    rw [es] at k
    refine ⟨_, rfl, v_ifD (c := 1 ≤ n ∧ n ≤ (1001 : Int) ^ 17) (fun h => ?_) (fun h => ?_)⟩
    · walk_at "go"
      refine ⟨Rs, n, rfl, S, fun e H1 S1 => ?_, fun ds e p H1 S1 => ?_⟩
      · walk_at "go"
        have := k H1 S1
        rw [e] at this
        exact this
      · walk_at "go"
        have := k H1 S1.tl
        rw [e] at this
        exact this
    · walk_at "go"
      have := k H S
      rw [back_big h] at this
      exact this
abbrev t_l_sound_1 (K : PySem.W.Frag) : TS := (tSeq (tAsg (tOp (uIx K) (tOp rIxK (tVar 0) (tVar 1)) (tC (.int 1))) (gName 2))
  (tRet (tAndV (tOp rNotN (tVar 2) (tC .non)) (tAndV (tOp (uNe K) (tVar 2) (tLst tNil)) (tOp (uEq K) (tCall (sp_l_sum K) [] E0 (tCons (tVar 2) tNil)) (tVar 1))))))
abbrev t_l_sound (K : PySem.W.Frag) : TS := (t_l_sound_1 K)
abbrev t_l_laid_8 (K : PySem.W.Frag) : TS := (tSeq (tAsg (tLst (tCons (tOp (uAdd K) (tOp (uIx K) (tOp rIxK (tVar 0) (tVar 3)) (tC (.int 0))) (tC (.int 1))) (tCons (tCB (rListOf K) (tCons (tVar 2) tNil)) tNil))) (gSub (tVar 0) (tVar 3) uSet))
  (tRet (tTup (tCons (tC (.str "told")) (tCons (tVar 3) tNil)))))
abbrev t_l_laid_6 (K : PySem.W.Frag) : TS := (tSeq (tIfS (tTest (tOp (uNotIn K) (tVar 3) (tVar 0))) (tAsg (tLst (tCons (tC (.int 0)) (tCons (tC .non) tNil))) (gSub (tVar 0) (tVar 3) uSet)) tNext)
  (t_l_laid_8 K))
abbrev t_l_laid_4 (K : PySem.W.Frag) : TS := (tSeq (tIfS (tAnd (tTest (tOp (uNotIn K) (tVar 3) (tVar 0))) (tTest (tOp uGe (tCB (uLen K) (tCons (tVar 0) tNil)) (tVar 1)))) (tRet (tTup (tCons (tC (.str "room")) (tCons (tVar 1) tNil)))) tNext)
  (t_l_laid_6 K))
abbrev t_l_laid_3 (K : PySem.W.Frag) : TS := (tSeq (tAsg (tCall (sp_l_sum K) [] E0 (tCons (tVar 2) tNil)) (gName 3))
  (t_l_laid_4 K))
abbrev t_l_laid_1 (K : PySem.W.Frag) : TS := (tSeq (tIfS (tNot (tB (tCall (sp_l_are_signs K) [] E0 (tCons (tVar 2) (tCons (tC (.int 1)) (tCons (tC (.int 16)) tNil)))))) (tRet (tTup (tCons (tC (.str "wrong")) (tCons (tC (.int 0)) tNil)))) tNext)
  (t_l_laid_3 K))
abbrev t_l_laid (K : PySem.W.Frag) : TS := (t_l_laid_1 K)
theorem pure_l_sound {K : PySem.W.Frag} (vs : List V) (H : Hp) (Q : VK) (E : XK) (h : sp_l_sound K vs H Q E) : t_l_sound K { nx := fun _ H' => Q .non H', rt := Q } (L2.start ["_law_model", "_law_seal", "_law_body_here"] vs) H := by
  obtain ⟨Rs, m, es, room, n, c, p, o, rfl, S, ok, hg, k⟩ := h
  show t_l_sound K _ [some (V.ref m), some (V.int n), none] H
  obtain ⟨b1, _, _⟩ := bdM ok hg
  walk_at "go"
  refine v_ixK (S.got 0 rfl) (by rw [val_kvM, hg]; rfl) ?_
  walk_at "go"
  refine v_ixL (SqL.of (cel_at S 1 rfl hg)) (v := bodV o) rfl ?_
  walk_at "go"
  cases o with
  | none =>
    dsimp only [bodV]
    walk_at "go"
    exact k H S
  | some q =>
    obtain ⟨q, ns⟩ := q
    obtain ⟨hl, hr⟩ := b1 ns rfl
    refine v_ifN (fun _ => ?_) (fun h => nomatch h)
    walk_at "go"
    refine v_lst S (by simp) fun em H1 S1 => ?_
    have hb : H1 q = some (.lst (ns.map V.int)) := bodM_at S1 3 rfl hg
    refine v_neD (dp_ints (SqL.of hb)) (dp_ints (ns := []) (SqL.of (S1.got 0 rfl))) (shaped_ints _) (shaped_ints _) ?_
    rw [eqv_ints]
    walk_at "go"
    have kk := k H1 S1.tl
    refine v_ifN (fun h => ?_) (fun h => ?_)
    · walk_at "go"
      refine u_l_sum (SqL.of hb) ⟨Nat.zero_le _, hl, hr⟩ ?_
      walk_at "go"
      have e2 : soundB n (Option.map (fun x => x.2) (some (q, ns))) = decide (sealN ns = n) := by
        show (!decide (ns = []) && decide (sealN ns = n)) = _
        rw [decide_eq_false h]
        rfl
      rw [e2] at kk
      exact kk
    · walk_at "go"
      have e2 : soundB n (Option.map (fun x => x.2) (some (q, ns))) = false := by
        show (!decide (ns = []) && decide (sealN ns = n)) = _
        rw [decide_eq_true h]
        rfl
      rw [e2] at kk
      exact kk
theorem u_l_are_signs {K : PySem.W.Frag} {Rs : List Res} {H : Hp} {v : V} {th : Thing} {lo hi : Int} {Q : VK} {E : XK} (S : M Rs H) (h : ThE K Rs v th) (hh : hi ≤ 1000) (k1 : signsT lo hi th = none → ∀ H', M Rs H' → Q (.bl false) H')
    (k2 : ∀ p ns, signsT lo hi th = some ns → v = .ref p → th = .lst (ns.map V.int) → lo ≤ ns.length → (ns.length : Int) ≤ hi → (∀ n ∈ ns, 0 ≤ n ∧ n ≤ 999) → ∀ H', M Rs H' → Q (.bl true) H') : sp_l_are_signs K ([v, .int lo, .int hi] ++ []) H Q E := by
  refine ⟨Rs, v, th, lo, hi, rfl, S, h, hh, fun H' S' => ?_⟩
  cases e : signsT lo hi th with
  | none => exact k1 e H' S'
  | some ns =>
    obtain ⟨rfl, h1, h2, h3⟩ := signsT_ok e
    have ht := h.at_ H' S'
    cases ht with
    | lst hh => exact k2 _ ns e rfl rfl h1 h2 h3 H' S'
theorem pure_l_laid {K : PySem.W.Frag} (vs : List V) (H : Hp) (Q : VK) (E : XK) (h : sp_l_laid K vs H Q E) : t_l_laid K { nx := fun _ H' => Q .non H', rt := Q } (L2.start ["_law_model", "_law_room", "_law_signs_here", "_law_seal"] vs) H := by
  obtain ⟨Rs, m, room, st, v, th, rfl, S, hth, k⟩ := h
  show t_l_laid K _ [some (V.ref m), some (V.int room), some v, none] H
  walk_at "go"
  refine u_l_are_signs S hth.tl (by decide) (fun e H1 S1 => ?_) (fun p ns e ev et l1 l2 l3 H1 S1 => ?_)
  · walk_at "go"
    have ed : layF room st th = .error (.wrong 0) := by
      unfold layF
      rw [e]
    rw [ed] at k
    refine v_tup S1 (by simp) fun t H2 S2 => ?_
    walk_at "go"
    exact k _ H2 (M.dat2s (fun _ => .int 0) S2)
  · subst ev
    walk_at "go"
    have sg : Signs 1 16 ns := ⟨by omega, by omega, l3⟩
    have sq : ∀ H', M Rs H' → SqL K H' p (ns.map V.int) := fun H' S' => by
      have := hth.at_ H' S'
      rw [et] at this
      exact thg_sq this
    refine u_l_sum (sq _ S1.tl) ⟨by omega, by omega, l3⟩ ?_
    obtain ⟨es, rfl, ok, S2⟩ := model_open S1
    have hlm := lenM ok
    have nd := ok.nd
    rw [keysM] at nd
    have ed : layF room (es.map absM) th = (match getS (es.map absM) (sealN ns) with
      | none => if ((es.map absM).length : Int) ≥ room then .error (.room room) else .ok (.int (sealN ns), setS (es.map absM) (sealN ns) (1, some ns))
      | some x => .ok (.int (sealN ns), setS (es.map absM) (sealN ns) (x.1 + 1, some ns))) := by
      unfold layF
      first | (rw [e]; done) | (rw [e]; rfl)
    rw [ed] at k
    walk_at "go"
    refine v_ninK (S2.got 0 rfl) ?_
    rw [val_kvM, Option.isSome_map]
    cases hg : getM es (sealN ns) with
    | some x =>
      obtain ⟨q, c, o⟩ := x
      obtain ⟨b1, b2, b3⟩ := bdM ok hg
      have hs := getM_of hg
      rw [hs] at k
      dsimp only [Option.isSome] at k ⊢
      walk_at "go"
      refine v_ninK (S2.got 0 rfl) ?_
      rw [val_kvM, Option.isSome_map, hg]
      dsimp only [Option.isSome]
      walk_at "go"
      refine v_ixK (S2.got 0 rfl) (by rw [val_kvM, hg]; rfl) ?_
      walk_at "go"
      refine v_ixL (SqL.of (cel_at S2 1 rfl hg)) (v := .int c) rfl ?_
      walk_at "go"
      refine v_list S2 (.inl (sq _ S2.tl.tl.tl)) fun b H3 S3 => ?_
      walk_at "go"
      refine v_lst S3 (by simp) fun w H4 S4 => ?_
      walk_at "go"
      refine v_put S4 2 rfl (by rw [kvM_len]; omega) fun H5 S5 => ?_
      walk_at "go"
      refine v_tup S5 (by simp) fun t H6 S6 => ?_
      walk_at "go"
      obtain ⟨e1, e2, rfl, _⟩ := splitM hg
      have S7 : M (pt t (.tup [.str "told", .int (sealN ns)]) :: pt w (.lst [.int (c + 1), .ref b]) :: pt b (.lst (ns.map V.int)) :: pt m (.dK (putK (kvM (e1 ++ (sealN ns, q, c, o) :: e2)) (Sum.inl (sealN ns)) (.ref w))) :: celR (e1 ++ (sealN ns, q, c, o) :: e2) :: bodM (e1 ++ (sealN ns, q, c, o) :: e2) :: Rs) H6 := S6
      rw [put_split nd] at S7
      have S8 : M (pt b (.lst (ns.map V.int)) :: bodM (e1 ++ (sealN ns, q, c, o) :: e2) :: celR (e1 ++ (sealN ns, q, c, o) :: e2) :: pt w (.lst [.int (c + 1), .ref b]) :: pt m (.dK (kvM (e1 ++ (sealN ns, w, c, o) :: e2))) :: pt t (.tup [.str "told", .int (sealN ns)]) :: Rs) H6 := M.sub (.cons 2 rfl (.cons 4 rfl (.cons 3 rfl (.cons 1 rfl (.cons 1 rfl (.cons 0 rfl (.refl _))))))) S7
      have S9 := bodM_new (es' := e1 ++ (sealN ns, w, c + 1, some (b, ns)) :: e2) (fun x hx z hz => by
        rcases List.mem_append.mp hx with hx | hx
        · exact .inr ⟨x, List.mem_append_left _ hx, hz⟩
        · rcases List.mem_cons.mp hx with rfl | hx
          · exact .inl (Option.some.inj hz).symm
          · exact .inr ⟨x, List.mem_append_right _ (List.mem_cons_of_mem _ hx), hz⟩) S8
      have S10 : M (celR (e1 ++ (sealN ns, q, c, o) :: e2) :: bodM (e1 ++ (sealN ns, w, c + 1, some (b, ns)) :: e2) :: pt w (.lst [.int (c + 1), .ref b]) :: pt m (.dK (kvM (e1 ++ (sealN ns, w, c, o) :: e2))) :: pt t (.tup [.str "told", .int (sealN ns)]) :: Rs) H6 := S9.perm (.swap _ _ _)
      have S11 : M (pt w (.lst [.int (c + 1), .ref b]) :: celR (e1 ++ e2) :: bodM (e1 ++ (sealN ns, w, c + 1, some (b, ns)) :: e2) :: pt m (.dK (kvM (e1 ++ (sealN ns, w, c, o) :: e2))) :: pt t (.tup [.str "told", .int (sealN ns)]) :: Rs) H6 := M.sub (.cons 3 rfl (.cons 1 rfl (.cons 1 rfl (.cons 1 rfl (.cons 1 rfl (.tl (.refl _))))))) (cel_out S10)
      have S12 := cel_in (e := (sealN ns, w, c + 1, some (b, ns))) S11
      have S13 : M (opM m (e1 ++ (sealN ns, w, c + 1, some (b, ns)) :: e2) (pt t (.tup [.str "told", .int (sealN ns)]) :: Rs)) H6 := by
        have ek : kvM (e1 ++ (sealN ns, w, c, o) :: e2) = kvM (e1 ++ (sealN ns, w, c + 1, some (b, ns)) :: e2) := by simp [kvM]
        rw [ek] at S12
        exact M.sub (.cons 2 rfl (.cons 0 rfl (.cons 0 rfl (.refl _)))) S12
      have ea : (e1 ++ (sealN ns, w, c + 1, some (b, ns)) :: e2).map absM = setS ((e1 ++ (sealN ns, q, c, o) :: e2).map absM) (sealN ns) (c + 1, some ns) := by
        rw [set_split nd, List.map_append, List.map_cons]
        rfl
      have S14 := model_close ea (ok.set (fun z => by rw [hs] at z; cases z) (by show 1 ≤ c + 1; omega) (fun ms z => by cases z; exact ⟨by omega, l3⟩) b3) S13
      exact k _ H6 (M.dat2s (fun _ => .int _) (S14.perm (.swap _ _ _)))
    | none =>
      have hs : getS (es.map absM) (sealN ns) = none := by rw [getM_abs, hg]; rfl
      rw [hs] at k
      dsimp only [Option.isSome] at k ⊢
      rw [List.length_map] at k
      walk_at "go"
      refine v_lenD (S2.got 0 rfl) ?_
      rw [kvM_len]
      walk_at "go"
      refine v_ifD (fun h => ?_) (fun h => ?_)
      · rw [if_pos (by omega)] at k
        walk_at "go"
        refine v_tup S2 (by simp) fun t H3 S3 => ?_
        walk_at "go"
        have S4 : M (opM m es (pt t (.tup [.str "room", .int room]) :: Rs)) H3 := M.sub (.cons 1 rfl (.cons 1 rfl (.cons 1 rfl (.refl _)))) S3
        exact k _ H3 (M.dat2s (fun _ => .int _) ((model_close rfl ok S4).perm (.swap _ _ _)))
      · rw [if_neg (by omega)] at k
        walk_at "go"
        refine v_ninK (S2.got 0 rfl) ?_
        rw [val_kvM, Option.isSome_map, hg]
        dsimp only [Option.isSome]
        walk_at "go"
        refine v_lst S2 (by simp) fun w0 H3 S3 => ?_
        walk_at "go"
        refine v_put S3 1 rfl (by rw [kvM_len]; omega) fun H4 S4 => ?_
        have e4 : putK (kvM es) (Sum.inl (sealN ns)) (.ref w0) = kvM (es ++ [(sealN ns, w0, 0, none)]) := put_newM hg
        have S5 : M (pt w0 (.lst [.int 0, .non]) :: pt m (.dK (kvM (es ++ [(sealN ns, w0, 0, none)]))) :: celR es :: bodM es :: Rs) H4 := by
          rw [← e4]
          exact S4
        have nd2 : ((es ++ (sealN ns, w0, (0 : Int), (none : Option (Addr × List Int))) :: []).map (·.1)).Nodup := by
          rw [List.map_append, List.nodup_append]
          refine ⟨nd, by simp, ?_⟩
          intro x hx y hy z
          have hy2 : y = sealN ns := by simpa using hy
          subst hy2
          subst z
          have := getS_none hs
          rw [keysM] at this
          exact this hx
        have hg2 : getM (es ++ [(sealN ns, w0, 0, none)]) (sealN ns) = some (w0, 0, none) := by
          have key : ∀ l : List ME, getM l (sealN ns) = none → getM (l ++ [(sealN ns, w0, 0, none)]) (sealN ns) = some (w0, 0, none) := by
            intro l
            induction l with
            | nil => intro _; rw [List.nil_append, getM_cons, if_pos rfl]
            | cons a l ih =>
              intro h
              rw [getM_cons] at h
              rw [List.cons_append, getM_cons]
              by_cases hk : a.1 = sealN ns
              · rw [if_pos hk] at h
                cases h
              · rw [if_neg hk] at h ⊢
                exact ih h
          exact key es hg
        walk_at "go"
        refine v_ixK (S5.got 1 rfl) (by rw [val_kvM, hg2]; rfl) ?_
        walk_at "go"
        refine v_list S5 (.inl (sq _ S5.tl.tl.tl.tl)) fun b H6 S6 => ?_
        walk_at "go"
        refine v_lst S6 (by simp) fun w H7 S7 => ?_
        walk_at "go"
        refine v_put S7 3 rfl (by rw [kvM_len, List.length_append]; simp; omega) fun H8 S8 => ?_
        walk_at "go"
        refine v_tup S8 (by simp) fun t H9 S9 => ?_
        walk_at "go"
        have S10 : M (pt t (.tup [.str "told", .int (sealN ns)]) :: pt w (.lst [.int (0 + 1), .ref b]) :: pt b (.lst (ns.map V.int)) :: pt w0 (.lst [.int 0, .non]) :: pt m (.dK (putK (kvM (es ++ (sealN ns, w0, (0 : Int), (none : Option (Addr × List Int))) :: [])) (Sum.inl (sealN ns)) (.ref w))) :: celR es :: bodM es :: Rs) H9 := S9
        rw [put_split nd2] at S10
        have S11 : M (pt b (.lst (ns.map V.int)) :: bodM es :: celR es :: pt w (.lst [.int 1, .ref b]) :: pt m (.dK (kvM (es ++ [(sealN ns, w, 0, none)]))) :: pt t (.tup [.str "told", .int (sealN ns)]) :: Rs) H9 := M.sub (.cons 2 rfl (.cons 5 rfl (.cons 4 rfl (.cons 1 rfl (.cons 2 rfl (.cons 0 rfl (.tl (.refl _)))))))) S10
        have S12 := bodM_new (es' := es ++ [(sealN ns, w, 1, some (b, ns))]) (fun x hx z hz => by
          rcases List.mem_append.mp hx with hx | hx
          · exact .inr ⟨x, hx, hz⟩
          · cases List.mem_singleton.mp hx
            exact .inl (Option.some.inj hz).symm) S11
        have S13 : M (pt w (.lst [.int 1, .ref b]) :: celR (es ++ []) :: bodM (es ++ [(sealN ns, w, 1, some (b, ns))]) :: pt m (.dK (kvM (es ++ [(sealN ns, w, 0, none)]))) :: pt t (.tup [.str "told", .int (sealN ns)]) :: Rs) H9 := by
          rw [List.append_nil]
          exact M.sub (.cons 2 rfl (.cons 1 rfl (.cons 0 rfl (.cons 0 rfl (.cons 0 rfl (.refl _)))))) S12
        have S14 := cel_in (e := (sealN ns, w, 1, some (b, ns))) S13
        have S15 : M (opM m (es ++ [(sealN ns, w, 1, some (b, ns))]) (pt t (.tup [.str "told", .int (sealN ns)]) :: Rs)) H9 := by
          have ek : kvM (es ++ [(sealN ns, w, 0, none)]) = kvM (es ++ [(sealN ns, w, 1, some (b, ns))]) := by simp [kvM]
          rw [ek] at S14
          exact M.sub (.cons 2 rfl (.cons 0 rfl (.cons 0 rfl (.refl _)))) S14
        have ea : (es ++ [(sealN ns, w, 1, some (b, ns))]).map absM = setS (es.map absM) (sealN ns) (1, some ns) := by
          rw [keysS_set_new hs, List.map_append]
          rfl
        have S16 := model_close ea (ok.set (fun _ => by rw [List.length_map]; omega) (by show (1 : Int) ≤ 1; decide) (fun ms z => by cases z; exact ⟨by omega, l3⟩) (sealN_ok sg)) S15
        exact k _ H9 (M.dat2s (fun _ => .int _) (S16.perm (.swap _ _ _)))
abbrev t_l_due_11 (K : PySem.W.Frag) : TS := (tSeq (tIfS (tTest (tOp (uEq K) (tOp (uIx K) (tOp rIxK (tVar 0) (tVar 3)) (tC (.int 0))) (tC (.int 0)))) (tDrop (tDPop1 (tVar 0) (tVar 3))) tNext)
  (tRet (tTup (tCons (tC (.str "told")) (tCons (tOp (uIx K) (tLst (tCons (tC .non) (tCons (tOp (uNotIn K) (tVar 3) (tVar 0)) tNil))) (tOp uSub (tVar 2) (tC (.int 1)))) tNil)))))
abbrev t_l_due_10 (K : PySem.W.Frag) : TS := (tSeq (tAugS (tOp rIxK (tVar 0) (tVar 3)) (tC (.int 0)) (tOp uSub (tC (.int 3)) (tOp uMul (tC (.int 2)) (tVar 2))) (gIx K) iAdd uSet)
  (t_l_due_11 K))
abbrev t_l_due_17 (K : PySem.W.Frag) : TS := (tSeq (tAsg (tOp (uIx K) (tLst (tCons (tCB (rListOf K) (tCons (tVar 4) tNil)) (tCons (tC .non) (tCons (tCB (rListOf K) (tCons (tVar 4) tNil)) tNil)))) (tOp uSub (tVar 2) (tC (.int 3)))) (gSub (tOp rIxK (tVar 0) (tVar 3)) (tC (.int 1)) uSet))
  (tRet (tTup (tCons (tC (.str "told")) (tCons (tC .non) tNil)))))
abbrev t_l_due_23 (K : PySem.W.Frag) : TS := (tSeq (tIfS (tB (tCall (sp_l_sound K) [] E0 (tCons (tVar 0) (tCons (tVar 3) tNil)))) (tRet (tTup (tCons (tC (.str "told")) (tCons (tCall (sp_l_back K) [] E0 (tCons (tVar 3) tNil)) tNil)))) tNext)
  (tRet (tTup (tCons (tC (.str "broken")) (tCons (tVar 3) tNil)))))
abbrev t_l_due_21 (K : PySem.W.Frag) : TS := (tSeq (tIfS (tTest (tOp (uEq K) (tVar 2) (tC (.int 7)))) (tRet (tTup (tCons (tC (.str "told")) (tCons (tCall (sp_l_sound K) [] E0 (tCons (tVar 0) (tCons (tVar 3) tNil))) tNil)))) tNext)
  (t_l_due_23 K))
abbrev t_l_due_19 (K : PySem.W.Frag) : TS := (tSeq (tIfS (tTest (tOp (uEq K) (tVar 2) (tC (.int 6)))) (tRet (tTup (tCons (tC (.str "told")) (tCons (tOp (uIx K) (tOp rIxK (tVar 0) (tVar 3)) (tC (.int 0))) tNil)))) tNext)
  (t_l_due_21 K))
abbrev t_l_due_16 (K : PySem.W.Frag) : TS := (tSeq (tIfS (tTest (tOp uLt (tVar 2) (tC (.int 6)))) (t_l_due_17 K) tNext)
  (t_l_due_19 K))
abbrev t_l_due_14 (K : PySem.W.Frag) : TS := (tSeq (tIfS (tAnd (tTest (tOp (uEq K) (tVar 2) (tC (.int 5)))) (tTest (tOp (uNe K) (tCall (sp_l_sum K) [] E0 (tCons (tVar 4) tNil)) (tVar 3)))) (tRet (tTup (tCons (tC (.str "unlike")) (tCons (tVar 3) tNil)))) tNext)
  (t_l_due_16 K))
abbrev t_l_due_9 (K : PySem.W.Frag) : TS := (tSeq (tIfS (tTest (tOp (uIn K) (tVar 2) (tTup (tCons (tC (.int 1)) (tCons (tC (.int 2)) tNil))))) (t_l_due_10 K) tNext)
  (t_l_due_14 K))
abbrev t_l_due_7 (K : PySem.W.Frag) : TS := (tSeq (tIfS (tTest (tOp (uNotIn K) (tVar 3) (tVar 0))) (tRet (tTup (tCons (tC (.str "piece")) (tCons (tVar 3) tNil)))) tNext)
  (t_l_due_9 K))
abbrev t_l_due_5 (K : PySem.W.Frag) : TS := (tSeq (tIfS (tAnd (tTest (tOp (uIn K) (tVar 2) (tTup (tCons (tC (.int 3)) (tCons (tC (.int 5)) tNil))))) (tNot (tB (tCall (sp_l_are_signs K) [] E0 (tCons (tVar 4) (tCons (tOp uDiv (tVar 2) (tC (.int 5))) (tCons (tC (.int 16)) tNil))))))) (tRet (tTup (tCons (tC (.str "wrong")) (tCons (tC (.int 1)) tNil)))) tNext)
  (t_l_due_7 K))
abbrev t_l_due_3 (K : PySem.W.Frag) : TS := (tSeq (tIfS (tNot (tB (tCall (sp_l_is_seal K) [] E0 (tCons (tVar 3) tNil)))) (tRet (tTup (tCons (tC (.str "wrong")) (tCons (tC (.int 0)) tNil)))) tNext)
  (t_l_due_5 K))
abbrev t_l_due_1 (K : PySem.W.Frag) : TS := (tSeq (tIfS (tTest (tOp (uEq K) (tVar 2) (tC (.int 0)))) (tRet (tCall (sp_l_laid K) [] E0 (tCons (tVar 0) (tCons (tVar 1) (tCons (tVar 4) tNil))))) tNext)
  (t_l_due_3 K))
abbrev t_l_due (K : PySem.W.Frag) : TS := (t_l_due_1 K)
/-- a number in a written tuple of numbers -/
theorem v_inT {K : PySem.W.Frag} {H : Hp} {Q : VK} {p : Addr} {n : Int} {ns : List Int} (h : H p = some (.tup (ns.map V.int))) (k : Q (.bl (decide (n ∈ ns))) H) : uIn K (.int n) (.ref p) H Q := by
  refine .inl ⟨p, ns.map V.int, rfl, .inr (SqT.of h), rfl, ?_, ?_⟩
  · rw [List.all_map, List.all_eq_true]
    intro x _
    rfl
  · show Q (.bl (inV (.int n) (ns.map V.int))) H
    rw [inV_ints]
    exact k
theorem u_l_is_seal {K : PySem.W.Frag} {Rs : List Res} {H : Hp} {v : V} {th : Thing} {Q : VK} {E : XK} (S : M Rs H) (h : ThE K Rs v th) (k1 : sealT th = none → ∀ H', M Rs H' → Q (.bl false) H') (k2 : ∀ n, sealT th = some n → v = .int n → ∀ H', M Rs H' → Q (.bl true) H') :
    sp_l_is_seal K ([v] ++ []) H Q E := by
  refine ⟨Rs, v, th, rfl, S, h, fun H' S' => ?_⟩
  cases e : sealT th with
  | none => exact k1 e H' S'
  | some n =>
    obtain ⟨rfl, _⟩ := sealT_some e
    have ht := h.at_ H' S'
    cases ht
    exact k2 n e rfl H' S'
theorem digs_seal {ns : List Int} (h : ∀ n ∈ ns, 0 ≤ n ∧ n ≤ 999) : digsI (sealN ns) = ns ∧ 0 ≤ sealN ns := by
  induction ns with
  | nil => exact ⟨digsI_no (by decide), by decide⟩
  | cons n r ih =>
    obtain ⟨h1, h2⟩ := ih fun m hm => h m (List.mem_cons_of_mem _ hm)
    have h3 := h n List.mem_cons_self
    have e : sealN (n :: r) = sealN r * 1001 + n + 1 := rfl
    refine ⟨?_, by omega⟩
    rw [digsI_pos (by omega), e]
    have e1 : (sealN r * 1001 + n + 1) % 1001 = n + 1 := by omega
    have e2 : (sealN r * 1001 + n + 1) / 1001 = sealN r := by omega
    rw [e1, e2, h1]
    congr 1
    omega
/-- a cell of the model is put otherwise -/
theorem cell_put {m : Addr} {l1 l2 : List ME} {s c c' : Int} {p : Addr} {o o' : Option (Addr × List Int)} {Rs : List Res} {H : Hp} (S : M (opM m (l1 ++ (s, p, c, o) :: l2) Rs) H) :
    M (pt p (.lst [.int c, bodV o]) :: pt m (.dK (kvM (l1 ++ (s, p, c', o') :: l2))) :: celR (l1 ++ l2) :: bodM (l1 ++ (s, p, c, o) :: l2) :: Rs) H := by
  have S1 : M (celR (l1 ++ (s, p, c, o) :: l2) :: pt m (.dK (kvM (l1 ++ (s, p, c, o) :: l2))) :: bodM (l1 ++ (s, p, c, o) :: l2) :: Rs) H := S.perm (.swap _ _ _)
  have ek : kvM (l1 ++ (s, p, c, o) :: l2) = kvM (l1 ++ (s, p, c', o') :: l2) := by simp [kvM]
  rw [ek] at S1
  exact M.sub (.cons 0 rfl (.cons 1 rfl (.cons 0 rfl (.refl _)))) (cel_out S1)
theorem cell_back {m : Addr} {l1 l2 : List ME} {s c : Int} {p : Addr} {o : Option (Addr × List Int)} {Rs : List Res} {H : Hp} (S : M (pt p (.lst [.int c, bodV o]) :: pt m (.dK (kvM (l1 ++ (s, p, c, o) :: l2))) :: celR (l1 ++ l2) :: bodM (l1 ++ (s, p, c, o) :: l2) :: Rs) H) : M (opM m (l1 ++ (s, p, c, o) :: l2) Rs) H := by
  have S1 : M (pt p (.lst [.int c, bodV o]) :: celR (l1 ++ l2) :: pt m (.dK (kvM (l1 ++ (s, p, c, o) :: l2))) :: bodM (l1 ++ (s, p, c, o) :: l2) :: Rs) H := S.perm (.cons _ (.swap _ _ _))
  exact (cel_in (e := (s, p, c, o)) S1).perm (.swap _ _ _)
def obR : Option (Addr × List Int) → List Res
  | some q => [pt q.1 (.lst (q.2.map V.int))]
  | none => []
theorem oc_ok (t : Told) (st' : Shst) : (Oc.dat (.ok (t, st')) = .tuple [.str "told", t.dat]) ∧ ∀ st, Oc.st st (.ok (t, st')) = st' := ⟨rfl, fun _ => rfl⟩
theorem pure_l_due {K : PySem.W.Frag} (vs : List V) (H : Hp) (Q : VK) (E : XK) (h : sp_l_due K vs H Q E) : t_l_due K { nx := fun _ H' => Q .non H', rt := Q } (L2.start ["_law_model", "_law_room", "_law_way", "_law_seal", "_law_signs_here"] vs) H := by
  obtain ⟨Rs, m, room, way, st, v, u, th, tu, rfl, w0, w8, h4u, S, hth, htu, k⟩ := h
  show t_l_due K _ [some (V.ref m), some (V.int room), some (V.int way), some v, some u] H
  walk_at "go"
  refine v_ifD (fun h => ?_) (fun h0 => ?_)
  · subst h
    walk_at "go"
    exact ⟨Rs, m, room, st, u, tu, rfl, S, htu, k⟩
  unfold deedF at k
  rw [if_neg h0] at k
  walk_at "go"
  refine u_l_is_seal S hth.tl (fun e H1 S1 => ?_) (fun n e ev H1 S1 => ?_)
  · -- no seal
    walk_at "go"
    refine v_tup S1 (by simp) fun t H2 S2 => ?_
    walk_at "go"
    have k' : OutM K m room st Rs (.error (.wrong 0)) Q := by
      simp only [holdF, goF, harmF, loseF, healF, heldF, isF, readF, keptF, kept2F, e] at k
      split at k <;> first | exact k | skip
      split at k <;> first | exact k | skip
      split at k <;> first | exact k | skip
      split at k <;> first | exact k | skip
      split at k <;> first | exact k | skip
      split at k <;> first | exact k | skip
      split at k <;> exact k
    exact k' _ H2 (M.dat2s (fun _ => .int _) S2)
  subst ev
  walk_at "go"
  refine v_tup S1 (by simp) fun t0 H2 S2 => ?_
  have hth2 : ThE K (pt t0 (.tup [.int 3, .int 5]) :: modelR m room st :: Rs) u tu := htu.tl.tl
  refine v_inT (ns := [3, 5]) (S2.got 0 rfl) ?_
  walk_at "go"
  -- behind the look at the signs
  have rest : ∀ H3, M (modelR m room st :: Rs) H3 → (way = 3 → ∃ p ns, u = .ref p ∧ tu = .lst (ns.map V.int) ∧ signsT 0 16 tu = some ns ∧ ns.length ≤ 16 ∧ (∀ n ∈ ns, 0 ≤ n ∧ n ≤ 999)) →
      (way = 5 → ∃ p ns, u = .ref p ∧ tu = .lst (ns.map V.int) ∧ signsT 1 16 tu = some ns ∧ ns.length ≤ 16 ∧ (∀ n ∈ ns, 0 ≤ n ∧ n ≤ 999)) →
      t_l_due_7 K { nx := fun _ H' => Q .non H', rt := Q } [some (V.ref m), some (V.int room), some (V.int way), some (V.int n), some u] H3 := by
    intro H3 S3 hw3 hw5
    obtain ⟨es, rfl, ok, S4⟩ := model_open S3
    have nd := ok.nd
    rw [keysM] at nd
    have hlm := lenM ok
    walk_at "go"
    refine v_ninK (S4.got 0 rfl) ?_
    rw [val_kvM, Option.isSome_map]
    cases hg : getM es n with
    | none =>
      have hs : getS (es.map absM) n = none := by rw [getM_abs, hg]; rfl
      dsimp only [Option.isSome]
      walk_at "go"
      refine v_tup S4 (by simp) fun t H5 S5 => ?_
      walk_at "go"
      have k' : OutM K m room (es.map absM) Rs (.error (.piece n)) Q := by
        by_cases h3 : way = 3
        · subst h3
          obtain ⟨_, _, _, _, h5, _⟩ := hw3 rfl
          simp only [harmF, kept2F, e, h5, hs] at k
          exact k
        · by_cases h5 : way = 5
          · subst h5
            obtain ⟨_, _, _, _, h6, _⟩ := hw5 rfl
            simp only [healF, kept2F, e, h6, hs] at k
            exact k
          · simp only [holdF, goF, loseF, heldF, isF, readF, keptF, e, hs, h3, h5, if_false] at k
            split at k <;> first | exact k | skip
            split at k <;> first | exact k | skip
            split at k <;> first | exact k | skip
            split at k <;> first | exact k | skip
            split at k <;> exact k
      have S6 : M (opM m es (pt t (.tup [.str "piece", .int n]) :: Rs)) H5 := M.sub (.cons 1 rfl (.cons 1 rfl (.cons 1 rfl (.refl _)))) S5
      exact k' _ H5 (M.dat2s (fun _ => .int _) ((model_close rfl ok S6).perm (.swap _ _ _)))
    | some x =>
      obtain ⟨p, c, o⟩ := x
      obtain ⟨b1, b2, b3⟩ := bdM ok hg
      have hs := getM_of hg
      have hno : getS (es.map absM) n = none → False := fun z => by rw [hs] at z; cases z
      dsimp only [Option.isSome]
      walk_at "go"
      refine v_tup S4 (by simp) fun t1 H5 S5 => ?_
      refine v_inT (ns := [1, 2]) (S5.got 0 rfl) ?_
      have S6 : M (opM m es Rs) H5 := S5.tl
      walk_at "go"
      refine v_ifD (fun h12 => ?_) (fun h12 => ?_)
      · -- hold, let go
        have h12' : way = 1 ∨ way = 2 := by simpa using h12
        walk_at "go"
        refine v_ixK (S6.got 0 rfl) (by rw [val_kvM, hg]; rfl) ?_
        walk_at "go"
        refine v_get (SqL.of (cel_at S6 1 rfl hg)) (by decide) (v := .int c) rfl ?_
        walk_at "go"
        obtain ⟨e1, e2, rfl, _⟩ := splitM hg
        have S7 := cell_put (c' := c + (3 - 2 * way)) (o' := o) S6
        refine v_set S7 0 rfl (j := 0) rfl fun H7 S8 => ?_
        have S9 : M (opM m (e1 ++ (n, p, c + (3 - 2 * way), o) :: e2) Rs) H7 := by
          have S10 : M (pt p (.lst [.int (c + (3 - 2 * way)), bodV o]) :: pt m (.dK (kvM (e1 ++ (n, p, c + (3 - 2 * way), o) :: e2))) :: celR (e1 ++ e2) :: bodM (e1 ++ (n, p, c, o) :: e2) :: Rs) H7 := S8
          have S11 : M (bodM (e1 ++ (n, p, c, o) :: e2) :: pt p (.lst [.int (c + (3 - 2 * way)), bodV o]) :: pt m (.dK (kvM (e1 ++ (n, p, c + (3 - 2 * way), o) :: e2))) :: celR (e1 ++ e2) :: Rs) H7 := M.sub (.cons 3 rfl (.cons 0 rfl (.cons 0 rfl (.cons 0 rfl (.refl _))))) S10
          have S12 := bodM_of (es' := e1 ++ (n, p, c + (3 - 2 * way), o) :: e2) (fun x hx z hz => by
            rcases List.mem_append.mp hx with hx | hx
            · exact ⟨x, List.mem_append_left _ hx, hz⟩
            · rcases List.mem_cons.mp hx with rfl | hx
              · exact ⟨(n, p, c, o), by simp, hz⟩
              · exact ⟨x, List.mem_append_right _ (List.mem_cons_of_mem _ hx), hz⟩) S11
          exact cell_back (M.sub (.cons 1 rfl (.cons 1 rfl (.cons 1 rfl (.cons 0 rfl (.refl _))))) S12)
        have nd9 : ((e1 ++ (n, p, c + (3 - 2 * way), o) :: e2).map (·.1)).Nodup := by
          have : (e1 ++ (n, p, c + (3 - 2 * way), o) :: e2).map (·.1) = (e1 ++ (n, p, c, o) :: e2).map (·.1) := by simp
          rw [this]
          exact nd
        have ea : (e1 ++ (n, p, c + (3 - 2 * way), o) :: e2).map absM = setS ((e1 ++ (n, p, c, o) :: e2).map absM) n (c + (3 - 2 * way), o.map (·.2)) := by
          rw [set_split nd, List.map_append, List.map_cons]
          rfl
        have hg9 : getM (e1 ++ (n, p, c + (3 - 2 * way), o) :: e2) n = some (p, c + (3 - 2 * way), o) := by
          obtain ⟨q1, _⟩ := nd_split nd
          have key : ∀ l : List ME, (∀ q ∈ l, q.1 ≠ n) → getM (l ++ (n, p, c + (3 - 2 * way), o) :: e2) n = some (p, c + (3 - 2 * way), o) := by
            intro l
            induction l with
            | nil => intro _; rw [List.nil_append, getM_cons, if_pos rfl]
            | cons a l ih =>
              intro h
              rw [List.cons_append, getM_cons, if_neg (h a List.mem_cons_self)]
              exact ih fun q hq => h q (List.mem_cons_of_mem _ hq)
          exact key e1 q1
        walk_at "go"
        refine v_ixK (S9.got 0 rfl) (by rw [val_kvM, hg9]; rfl) ?_
        walk_at "go"
        refine v_ixL (SqL.of (cel_at S9 1 rfl hg9)) (v := .int (c + (3 - 2 * way))) rfl ?_
        walk_at "go"
        refine v_ifD (fun hz => ?_) (fun hz => ?_)
        · -- it is kept no longer
          have hw : way = 2 := by omega
          subst hw
          have hc : c = 1 := by omega
          subst hc
          simp only [goF, keptF, e, hs] at k
          have k' : OutM K m room ((e1 ++ (n, p, 1, o) :: e2).map absM) Rs (.ok (.bl true, delS ((e1 ++ (n, p, 1, o) :: e2).map absM) n)) Q := k
          obtain ⟨d1, d2⟩ := drop_split nd9
          walk_at "go"
          refine v_dpop (S9.got 0 rfl) ?_
          walk_at "go"
          refine v_popI S9 0 rfl (by rw [val_kvM, hg9]; rfl) fun H10 S10 => ?_
          have S11 : M (pt m (.dK (dropK (kvM (e1 ++ (n, p, 1 + (3 - 2 * 2), o) :: e2)) (Sum.inl n))) :: celR (e1 ++ (n, p, 1 + (3 - 2 * 2), o) :: e2) :: bodM (e1 ++ (n, p, 1 + (3 - 2 * 2), o) :: e2) :: Rs) H10 := S10
          rw [d1] at S11
          have S12 : M (opM m (e1 ++ e2) Rs) H10 := by
            have S13 : M (celR (e1 ++ (n, p, 1 + (3 - 2 * 2), o) :: e2) :: bodM (e1 ++ (n, p, 1 + (3 - 2 * 2), o) :: e2) :: pt m (.dK (kvM (e1 ++ e2))) :: Rs) H10 := M.sub (.cons 1 rfl (.cons 1 rfl (.cons 0 rfl (.refl _)))) S11
            have S14 : M (bodM (e1 ++ (n, p, 1 + (3 - 2 * 2), o) :: e2) :: celR (e1 ++ e2) :: pt m (.dK (kvM (e1 ++ e2))) :: Rs) H10 := M.sub (.cons 2 rfl (.cons 1 rfl (.cons 1 rfl (.tl (.refl _))))) (cel_out S13)
            have S15 := bodM_of (es' := e1 ++ e2) (fun x hx z hz => by
              rcases List.mem_append.mp hx with hx | hx
              · exact ⟨x, List.mem_append_left _ hx, hz⟩
              · exact ⟨x, List.mem_append_right _ (List.mem_cons_of_mem _ hx), hz⟩) S14
            exact M.sub (.cons 2 rfl (.cons 1 rfl (.cons 0 rfl (.refl _)))) S15
          have hg12 : getM (e1 ++ e2) n = none := by
            obtain ⟨q1, q2⟩ := nd_split nd
            unfold getM
            rw [Option.map_eq_none_iff, List.find?_eq_none]
            intro x hx
            rcases List.mem_append.mp hx with hx | hx
            · simpa using q1 x hx
            · simpa using q2 x hx
          walk_at "go"
          refine v_ninK (S12.got 0 rfl) ?_
          rw [val_kvM, hg12]
          dsimp only [Option.map, Option.isSome, Bool.not_false]
          walk_at "go"
          refine v_lst S12 (by simp) fun l H13 S13 => ?_
          walk_at "go"
          refine v_tup S13.tl (by simp) fun t H14 S14 => ?_
          walk_at "go"
          have S15 : M (opM m (e1 ++ e2) (pt t (.tup [.str "told", .bl true]) :: Rs)) H14 := M.sub (.cons 1 rfl (.cons 1 rfl (.cons 1 rfl (.refl _)))) S14
          have d3 : (e1 ++ e2).map absM = delS ((e1 ++ (n, p, 1, o) :: e2).map absM) n := ((drop_split nd).2).symm
          exact k' _ H14 (M.dat2s (fun _ => .bl true) ((model_close d3 (ok.del n) S15).perm (.swap _ _ _)))
        · -- it is held still
          walk_at "go"
          refine v_ninK (S9.got 0 rfl) ?_
          rw [val_kvM, hg9]
          dsimp only [Option.map, Option.isSome, Bool.not_true]
          walk_at "go"
          refine v_lst S9 (by simp) fun l H13 S13 => ?_
          walk_at "go"
          have okN := ok.set (x := (c + (3 - 2 * way), o.map (·.2))) (fun z => (hno z).elim) (by show 1 ≤ c + (3 - 2 * way); omega) b1 b3
          rcases h12' with rfl | rfl
          · refine v_ixL (SqL.of (S13.got 0 rfl)) (v := .non) rfl ?_
            walk_at "go"
            refine v_tup S13.tl (by simp) fun t H14 S14 => ?_
            walk_at "go"
            have S15 : M (opM m (e1 ++ (n, p, c + (3 - 2 * 1), o) :: e2) (pt t (.tup [.str "told", .non]) :: Rs)) H14 := M.sub (.cons 1 rfl (.cons 1 rfl (.cons 1 rfl (.refl _)))) S14
            simp only [holdF, keptF, e, hs] at k
            have k' : OutM K m room ((e1 ++ (n, p, c, o) :: e2).map absM) Rs (.ok (.non, setS ((e1 ++ (n, p, c, o) :: e2).map absM) n (c + 1, o.map (·.2)))) Q := k
            have ec : c + (3 - 2 * 1) = c + 1 := by omega
            have S16 := M.dat2s (K := K) (fun _ => .non) ((model_close ea okN S15).perm (.swap _ _ _))
            rw [ec] at S16
            exact k' _ H14 S16
          · refine v_ixL (SqL.of (S13.got 0 rfl)) (v := .bl false) rfl ?_
            walk_at "go"
            refine v_tup S13.tl (by simp) fun t H14 S14 => ?_
            walk_at "go"
            have S15 : M (opM m (e1 ++ (n, p, c + (3 - 2 * 2), o) :: e2) (pt t (.tup [.str "told", .bl false]) :: Rs)) H14 := M.sub (.cons 1 rfl (.cons 1 rfl (.cons 1 rfl (.refl _)))) S14
            simp only [goF, keptF, e, hs] at k
            have k' : OutM K m room ((e1 ++ (n, p, c, o) :: e2).map absM) Rs (if c - 1 > 0 then .ok (.bl false, setS ((e1 ++ (n, p, c, o) :: e2).map absM) n (c - 1, o.map (·.2))) else .ok (.bl true, delS ((e1 ++ (n, p, c, o) :: e2).map absM) n)) Q := k
            rw [if_pos (by omega)] at k'
            have ec : c + (3 - 2 * 2) = c - 1 := by omega
            have S16 := M.dat2s (K := K) (fun _ => .bl false) ((model_close ea okN S15).perm (.swap _ _ _))
            rw [ec] at S16
            exact k' _ H14 S16
      · -- the other doors
        have h1 : way ≠ 1 := fun z => h12 (by simp [z])
        have h2 : way ≠ 2 := fun z => h12 (by simp [z])
        rw [if_neg h1, if_neg h2] at k
        walk_at "go"
        -- a body is put
        have putB : ∀ (H7 : Hp) (ob : Option (Addr × List Int)) (Rs' : List Res), (∀ ns, ob.map (·.2) = some ns → ns.length ≤ 16 ∧ ∀ n ∈ ns, 0 ≤ n ∧ n ≤ 999) → OutM K m room (es.map absM) Rs (.ok (.non, setS (es.map absM) n (c, ob.map (·.2)))) Q →
            M (obR ob ++ opM m es Rs) H7 →
            gSub (tOp rIxK (tVar 0) (tVar 3)) (tC (.int 1)) uSet (bodV ob) [some (V.ref m), some (V.int room), some (V.int way), some (V.int n), some u] H7 (fun σ H1 => tRet (tTup (tCons (tC (.str "told")) (tCons (tC .non) tNil))) { nx := fun _ H' => Q .non H', rt := Q } σ H1) := by
          intro H7 ob Rs' hob k' S7
          have S8 : M (opM m es (obR ob ++ Rs)) H7 := by
            cases ob with
            | none => exact S7
            | some q => exact M.sub (.cons 1 rfl (.cons 1 rfl (.cons 1 rfl (.cons 0 rfl (.refl _))))) S7
          walk_at "go"
          refine v_ixK (S8.got 0 rfl) (by rw [val_kvM, hg]; rfl) ?_
          walk_at "go"
          obtain ⟨e1, e2, rfl, _⟩ := splitM hg
          have S9 := cell_put (c' := c) (o' := ob) S8
          refine v_set S9 0 rfl (j := 1) rfl fun H8 S10 => ?_
          have S11 : M (pt p (.lst [.int c, bodV ob]) :: pt m (.dK (kvM (e1 ++ (n, p, c, ob) :: e2))) :: celR (e1 ++ e2) :: bodM (e1 ++ (n, p, c, o) :: e2) :: (obR ob ++ Rs)) H8 := S10
          have S12 : M (opM m (e1 ++ (n, p, c, ob) :: e2) Rs) H8 := by
            cases ob with
            | none =>
              have S13 : M (bodM (e1 ++ (n, p, c, o) :: e2) :: pt p (.lst [.int c, bodV none]) :: pt m (.dK (kvM (e1 ++ (n, p, c, none) :: e2))) :: celR (e1 ++ e2) :: Rs) H8 := M.sub (.cons 3 rfl (.cons 0 rfl (.cons 0 rfl (.cons 0 rfl (.refl _))))) S11
              have S14 := bodM_of (es' := e1 ++ (n, p, c, none) :: e2) (fun x hx z hz => by
                rcases List.mem_append.mp hx with hx | hx
                · exact ⟨x, List.mem_append_left _ hx, hz⟩
                · rcases List.mem_cons.mp hx with rfl | hx
                  · cases hz
                  · exact ⟨x, List.mem_append_right _ (List.mem_cons_of_mem _ hx), hz⟩) S13
              exact cell_back (M.sub (.cons 1 rfl (.cons 1 rfl (.cons 1 rfl (.cons 0 rfl (.refl _))))) S14)
            | some q =>
              obtain ⟨q, ns⟩ := q
              have S13 : M (pt q (.lst (ns.map V.int)) :: bodM (e1 ++ (n, p, c, o) :: e2) :: pt p (.lst [.int c, bodV (some (q, ns))]) :: pt m (.dK (kvM (e1 ++ (n, p, c, some (q, ns)) :: e2))) :: celR (e1 ++ e2) :: Rs) H8 := M.sub (.cons 4 rfl (.cons 3 rfl (.cons 0 rfl (.cons 0 rfl (.cons 0 rfl (.refl _)))))) S11
              have S14 := bodM_new (es' := e1 ++ (n, p, c, some (q, ns)) :: e2) (fun x hx z hz => by
                rcases List.mem_append.mp hx with hx | hx
                · exact .inr ⟨x, List.mem_append_left _ hx, hz⟩
                · rcases List.mem_cons.mp hx with rfl | hx
                  · exact .inl (Option.some.inj hz).symm
                  · exact .inr ⟨x, List.mem_append_right _ (List.mem_cons_of_mem _ hx), hz⟩) S13
              exact cell_back (M.sub (.cons 1 rfl (.cons 1 rfl (.cons 1 rfl (.cons 0 rfl (.refl _))))) S14)
          have ea : (e1 ++ (n, p, c, ob) :: e2).map absM = setS ((e1 ++ (n, p, c, o) :: e2).map absM) n (c, ob.map (·.2)) := by
            rw [set_split nd, List.map_append, List.map_cons]
            rfl
          have okN := ok.set (x := (c, ob.map (·.2))) (fun z => (hno z).elim) b2 hob b3
          walk_at "go"
          refine v_tup S12 (by simp) fun t H9 S13 => ?_
          walk_at "go"
          have S14 : M (opM m (e1 ++ (n, p, c, ob) :: e2) (pt t (.tup [.str "told", .non]) :: Rs)) H9 := M.sub (.cons 1 rfl (.cons 1 rfl (.cons 1 rfl (.refl _)))) S13
          exact k' _ H9 (M.dat2s (K := K) (fun _ => .non) ((model_close ea okN S14).perm (.swap _ _ _)))
        -- two new lists of the signs
        have lists : way = 3 ∨ way = 5 → ∀ (sg : ∃ q ns, u = .ref q ∧ tu = .lst (ns.map V.int) ∧ ns.length ≤ 16 ∧ (∀ n ∈ ns, 0 ≤ n ∧ n ≤ 999) ∧ OutM K m room (es.map absM) Rs (.ok (.non, setS (es.map absM) n (c, some ns))) Q),
            t_l_due_17 K { nx := t_l_due_19 K { nx := fun _ H' => Q .non H', rt := Q }, rt := Q } [some (V.ref m), some (V.int room), some (V.int way), some (V.int n), some u] H5 := by
          rintro hw ⟨q, ns, rfl, rfl, l1, l2, k'⟩
          have sq := thg_sq (htu.at_ _ S6.tl.tl.tl)
          walk_at "go"
          refine v_list S6 (.inl sq) fun b1' H7 S7 => ?_
          walk_at "go"
          refine v_list S7 (.inl (thg_sq (htu.at_ _ S7.tl.tl.tl.tl))) fun b2' H8 S8 => ?_
          walk_at "go"
          refine v_lst S8 (by simp) fun l H9 S9 => ?_
          walk_at "go"
          rcases hw with rfl | rfl
          · refine v_ixL (SqL.of (S9.got 0 rfl)) (v := .ref b1') rfl ?_
            exact putB H9 (some (b1', ns)) Rs (fun ms z => by cases z; exact ⟨l1, l2⟩) k' (M.sub (.cons 2 rfl (.tl (.tl (.refl _)))) S9)
          · refine v_ixL (SqL.of (S9.got 0 rfl)) (v := .ref b2') rfl ?_
            exact putB H9 (some (b2', ns)) Rs (fun ms z => by cases z; exact ⟨l1, l2⟩) k' (M.sub (.cons 1 rfl (.tl (.tl (.refl _)))) S9)
        -- what is told without a change
        have told : ∀ (x : V) (H7 : Hp) (d : PyData) (Rs' : List Res), (∀ F, Dp K F x d) → M (opM m es Rs) H7 → (∀ y H', M (dt K y (.tuple [.str "told", d]) :: modelR m room (es.map absM) :: Rs) H' → Q y H') →
            TupK { nx := fun _ H' => Q .non H', rt := Q : Ends }.rt [.str "told", x] H7 := by
          intro x H7 d Rs' hd S7 k'
          refine v_tup S7 (by simp) fun t H8 S8 => ?_
          have S9 : M (opM m es (pt t (.tup [.str "told", x]) :: Rs)) H8 := M.sub (.cons 1 rfl (.cons 1 rfl (.cons 1 rfl (.refl _)))) S8
          exact k' _ H8 (M.dat2s hd ((model_close rfl ok S9).perm (.swap _ _ _)))
        by_cases h5 : way = 5
        · subst h5
          obtain ⟨q, ns, rfl, et, es5, l1, l2⟩ := hw5 rfl
          rw [if_neg (by decide), if_neg (by decide), if_pos rfl] at k
          simp only [healF, kept2F, e, es5, hs] at k
          refine v_ifT ?_
          walk_at "go"
          have sq : SqL K H5 q (ns.map V.int) := by
            have := htu.at_ _ S6.tl.tl.tl
            rw [et] at this
            exact thg_sq this
          refine u_l_sum sq ⟨Nat.zero_le _, l1, l2⟩ ?_
          walk_at "go"
          refine v_ifN (fun h => ?_) (fun h => ?_)
          · rw [if_pos h] at k
            walk_at "go"
            refine v_tup S6 (by simp) fun t H8 S8 => ?_
            walk_at "go"
            have S9 : M (opM m es (pt t (.tup [.str "unlike", .int n]) :: Rs)) H8 := M.sub (.cons 1 rfl (.cons 1 rfl (.cons 1 rfl (.refl _)))) S8
            exact k _ H8 (M.dat2s (fun _ => .int n) ((model_close rfl ok S9).perm (.swap _ _ _)))
          · rw [if_neg (fun z => z h)] at k
            walk_at "nx"
            refine g_next ?_
            walk_at "nx"
            refine g_seq (g_if (g_test (g_op (g_var rfl (g_c (v_lt (g_bl (v_ifT ?_))))))))
            exact lists (.inr rfl) ⟨q, ns, rfl, et, l1, l2, k⟩
        · rw [show decide (way = 5) = false from decide_eq_false h5]
          rw [if_neg h5] at k
          walk_at "go"
          refine v_ifD (fun h6 => ?_) (fun h6 => ?_)
          · by_cases h3 : way = 3
            · subst h3
              obtain ⟨q, ns, rfl, et, es5, l1, l2⟩ := hw3 rfl
              rw [if_pos rfl] at k
              simp only [harmF, kept2F, e, es5, hs] at k
              exact lists (.inl rfl) ⟨q, ns, rfl, et, l1, l2, k⟩
            · have h4 : way = 4 := by
                clear hw3 hw5 k lists putB told
                omega
              subst h4
              rw [if_neg (by decide), if_pos rfl] at k
              simp only [loseF, keptF, e, hs] at k
              obtain ⟨xs, rfl⟩ := h4u rfl
              have ht := htu.at_ _ S6.tl.tl.tl
              cases ht with
              | @lst q xs sq =>
                walk_at "go"
                refine v_list S6 (.inl sq) fun b1' H7 S7 => ?_
                walk_at "go"
                refine v_list S7 (.inl (thg_sq (htu.at_ _ S7.tl.tl.tl.tl))) fun b2' H8 S8 => ?_
                walk_at "go"
                refine v_lst S8 (by simp) fun l H9 S9 => ?_
                refine g_op (g_var rfl (g_c (v_sub ?_)))
                refine v_ixL (SqL.of (S9.got 0 rfl)) (v := .non) (i := 4 - 3) rfl ?_
                exact putB H9 none Rs (fun ms z => by cases z) k (M.sub (.tl (.tl (.tl (.refl _)))) S9)
          · rw [if_neg (show way ≠ 3 by omega), if_neg (show way ≠ 4 by omega)] at k
            walk_at "go"
            refine v_ifD (fun h7 => ?_) (fun h7 => ?_)
            · subst h7
              rw [if_pos rfl] at k
              simp only [heldF, keptF, e, hs] at k
              walk_at "go"
              refine v_ixK (S6.got 0 rfl) (by rw [val_kvM, hg]; rfl) ?_
              walk_at "go"
              refine v_ixL (SqL.of (cel_at S6 1 rfl hg)) (v := .int c) rfl ?_
              walk_at "go"
              exact told _ _ (.int c) Rs (fun _ => .int c) S6 k
            · rw [if_neg h7] at k
              walk_at "go"
              refine v_ifD (fun h8 => ?_) (fun h8 => ?_)
              · subst h8
                rw [if_pos rfl] at k
                simp only [isF, keptF, e, hs] at k
                walk_at "go"
                refine ⟨Rs, m, es, room, n, c, p, o, rfl, S6, ok, hg, fun H8 S8 => ?_⟩
                walk_at "go"
                exact told _ _ (.bool _) Rs (fun _ => .bl _) S8 k
              · rw [if_neg h8] at k
                simp only [readF, keptF, e, hs] at k
                walk_at "go"
                refine ⟨Rs, m, es, room, n, c, p, o, rfl, S6, ok, hg, fun H8 S8 => ?_⟩
                walk_at "go"
                cases eb : soundB n (o.map (·.2)) with
                | true =>
                  rw [eb] at k
                  walk_at "go"
                  cases o with
                  | none => cases eb
                  | some q =>
                    obtain ⟨q, ns⟩ := q
                    obtain ⟨l1, l2⟩ := b1 ns rfl
                    have en : sealN ns = n := by
                      have : (!decide (ns = []) && decide (sealN ns = n)) = true := eb
                      rw [Bool.and_eq_true] at this
                      exact of_decide_eq_true this.2
                    have eb2 : backN n = some ns := by
                      have := b3
                      unfold backN at this ⊢
                      rw [← en, (digs_seal l2).1] at this ⊢
                      split at this
                      · cases this
                      · rename_i hh
                        rw [if_neg hh]
                    refine ⟨_, n, rfl, S8, fun z => (by rw [eb2] at z; cases z), fun ds z b H9 S9 => ?_⟩
                    rw [eb2] at z
                    cases z
                    walk_at "go"
                    refine v_tup S9 (by simp) fun t H10 S10 => ?_
                    walk_at "go"
                    have S11 : M (opM m es (pt t (.tup [.str "told", .ref b]) :: pt b (.lst (ns.map V.int)) :: Rs)) H10 := M.sub (.cons 2 rfl (.cons 2 rfl (.cons 2 rfl (.refl _)))) S10
                    have S12 : M (pt t (.tup [.str "told", .ref b]) :: pt b (.lst (ns.map V.int)) :: modelR m room (es.map absM) :: Rs) H10 := M.sub (.cons 1 rfl (.cons 1 rfl (.refl _))) (model_close rfl ok S11)
                    exact k _ H10 (M.dat2l S12)
                | false =>
                  rw [eb] at k
                  walk_at "go"
                  refine v_tup S8 (by simp) fun t H9 S9 => ?_
                  walk_at "go"
                  have S10 : M (opM m es (pt t (.tup [.str "broken", .int n]) :: Rs)) H9 := M.sub (.cons 1 rfl (.cons 1 rfl (.cons 1 rfl (.refl _)))) S9
                  exact k _ H9 (M.dat2s (fun _ => .int n) ((model_close rfl ok S10).perm (.swap _ _ _)))
  refine v_ifD (fun h35 => ?_) (fun h35 => ?_)
  · have h35' : way = 3 ∨ way = 5 := by simpa using h35
    walk_at "go"
    have ed : way / 5 = if way = 5 then 1 else 0 := by
      rcases h35' with rfl | rfl <;> decide
    refine u_l_are_signs S2 hth2 (by decide) (fun e3 H3 S3 => ?_) (fun p ns e3 eu et l1 l2 l3 H3 S3 => ?_)
    · walk_at "go"
      refine v_tup S3 (by simp) fun t H4 S4 => ?_
      walk_at "go"
      have k' : OutM K m room st Rs (.error (.wrong 1)) Q := by
        rcases h35' with rfl | rfl
        · have e4 : signsT 0 16 tu = none := e3
          simp only [harmF, kept2F, e, e4] at k
          exact k
        · have e4 : signsT 1 16 tu = none := e3
          simp only [healF, kept2F, e, e4] at k
          exact k
      exact k' _ H4 (M.dat2s (fun _ => .int 1) (M.sub (.cons 0 rfl (.tl (.refl _))) S4))
    · refine g_bl (v_ifNT (g_next ?_))
      walk_at "nx"
      refine rest _ S3.tl (fun z => ?_) (fun z => ?_)
      · subst z
        exact ⟨p, ns, eu, et, e3, by omega, l3⟩
      · subst z
        exact ⟨p, ns, eu, et, e3, by omega, l3⟩
  · refine v_ifF (g_next ?_)
    walk_at "nx"
    exact rest _ S2.tl (fun z => absurd (by simp [z]) h35) (fun z => absurd (by simp [z]) h35)
abbrev t_l_deed_15 (K : PySem.W.Frag) (W : WX) : TS := (tSeq (tIfS (tTest (tOp (uEq K) (tVar 1) (tC (.int 7)))) (tRet (tMethW W (He.ga K "Shelf") "is_sound" (sp_Shelf_is_sound K) [] (tVar 0) (tCons (tVar 2) tNil))) tNext)
  (tRet (tMethW W (He.ga K "Shelf") "read" (sp_Shelf_read K) [] (tVar 0) (tCons (tVar 2) tNil))))
abbrev t_l_deed_13 (K : PySem.W.Frag) (W : WX) : TS := (tSeq (tIfS (tTest (tOp (uEq K) (tVar 1) (tC (.int 6)))) (tRet (tMethW W (He.ga K "Shelf") "held" (sp_Shelf_held K) [] (tVar 0) (tCons (tVar 2) tNil))) tNext)
  (t_l_deed_15 K W))
abbrev t_l_deed_11 (K : PySem.W.Frag) (W : WX) : TS := (tSeq (tIfS (tTest (tOp (uEq K) (tVar 1) (tC (.int 5)))) (tRet (tMethW W (He.ga K "Shelf") "heal" (sp_Shelf_heal K) [] (tVar 0) (tCons (tVar 2) (tCons (tVar 3) tNil)))) tNext)
  (t_l_deed_13 K W))
abbrev t_l_deed_9 (K : PySem.W.Frag) (W : WX) : TS := (tSeq (tIfS (tTest (tOp (uEq K) (tVar 1) (tC (.int 4)))) (tRet (tMethW W (He.ga K "Shelf") "lose" (sp_Shelf_lose K) [] (tVar 0) (tCons (tVar 2) tNil))) tNext)
  (t_l_deed_11 K W))
abbrev t_l_deed_7 (K : PySem.W.Frag) (W : WX) : TS := (tSeq (tIfS (tTest (tOp (uEq K) (tVar 1) (tC (.int 3)))) (tRet (tMethW W (He.ga K "Shelf") "harm" (sp_Shelf_harm K) [] (tVar 0) (tCons (tVar 2) (tCons (tVar 3) tNil)))) tNext)
  (t_l_deed_9 K W))
abbrev t_l_deed_5 (K : PySem.W.Frag) (W : WX) : TS := (tSeq (tIfS (tTest (tOp (uEq K) (tVar 1) (tC (.int 2)))) (tRet (tMethW W (He.ga K "Shelf") "let_go" (sp_Shelf_let_go K) [] (tVar 0) (tCons (tVar 2) tNil))) tNext)
  (t_l_deed_7 K W))
abbrev t_l_deed_3 (K : PySem.W.Frag) (W : WX) : TS := (tSeq (tIfS (tTest (tOp (uEq K) (tVar 1) (tC (.int 1)))) (tRet (tMethW W (He.ga K "Shelf") "hold" (sp_Shelf_hold K) [] (tVar 0) (tCons (tVar 2) tNil))) tNext)
  (t_l_deed_5 K W))
abbrev t_l_deed_1 (K : PySem.W.Frag) (W : WX) : TS := (tSeq (tIfS (tTest (tOp (uEq K) (tVar 1) (tC (.int 0)))) (tRet (tMethW W (He.ga K "Shelf") "lay" (sp_Shelf_lay K) [] (tVar 0) (tCons (tVar 3) tNil))) tNext)
  (t_l_deed_3 K W))
abbrev t_l_deed (K : PySem.W.Frag) (W : WX) : TS := (t_l_deed_1 K W)
theorem pure_l_deed {K : PySem.W.Frag} (T : TxC K) (vs : List V) (H : Hp) (Q : VK) (E : XK) (h : sp_l_deed K vs H Q E) : t_l_deed K (WT E) { nx := fun _ H' => Q .non H', rt := Q } (L2.start ["_law_shelf", "_law_way", "_law_seal", "_law_signs_here"] vs) H := by
  obtain ⟨Rs, a, room, way, st, v, u, th, tu, rfl, w0, w8, S, hth, htu, k⟩ := h
  show t_l_deed K (WT E) _ [some (V.ref a), some (V.int way), some v, some u] H
  unfold deedF at k
  walk_at "go"
  refine v_ifD (fun h => ?_) (fun h => ?_)
  · rw [if_pos h] at k
    walk_at "go"
    refine v_shelf S 0 rfl ?_
    walk_at "go"
    exact ⟨Rs, a, room, st, u, tu, rfl, S, htu, k⟩
  rw [if_neg h] at k
  walk_at "go"
  refine v_ifD (fun h => ?_) (fun h => ?_)
  · rw [if_pos h] at k
    walk_at "go"
    refine v_shelf S 0 rfl ?_
    walk_at "go"
    exact ⟨Rs, a, room, st, v, th, rfl, S, hth, k⟩
  rw [if_neg h] at k
  walk_at "go"
  refine v_ifD (fun h => ?_) (fun h => ?_)
  · rw [if_pos h] at k
    walk_at "go"
    refine v_shelf S 0 rfl ?_
    walk_at "go"
    exact ⟨Rs, a, room, st, v, th, rfl, S, hth, k⟩
  rw [if_neg h] at k
  walk_at "go"
  refine v_ifD (fun h => ?_) (fun h => ?_)
  · rw [if_pos h] at k
    walk_at "go"
    refine v_shelf S 0 rfl ?_
    walk_at "go"
    exact ⟨Rs, a, room, st, v, u, th, tu, rfl, S, hth, htu, k⟩
  rw [if_neg h] at k
  walk_at "go"
  refine v_ifD (fun h => ?_) (fun h => ?_)
  · rw [if_pos h] at k
    walk_at "go"
    refine v_shelf S 0 rfl ?_
    walk_at "go"
    exact ⟨Rs, a, room, st, v, th, rfl, S, hth, k⟩
  rw [if_neg h] at k
  walk_at "go"
  refine v_ifD (fun h => ?_) (fun h => ?_)
  · rw [if_pos h] at k
    walk_at "go"
    refine v_shelf S 0 rfl ?_
    walk_at "go"
    exact ⟨Rs, a, room, st, v, u, th, tu, rfl, S, hth, htu, k⟩
  rw [if_neg h] at k
  walk_at "go"
  refine v_ifD (fun h => ?_) (fun h => ?_)
  · rw [if_pos h] at k
    walk_at "go"
    refine v_shelf S 0 rfl ?_
    walk_at "go"
    exact ⟨Rs, a, room, st, v, th, rfl, S, hth, k⟩
  rw [if_neg h] at k
  walk_at "go"
  refine v_ifD (fun h => ?_) (fun h => ?_)
  · rw [if_pos h] at k
    walk_at "go"
    refine v_shelf S 0 rfl ?_
    walk_at "go"
    exact ⟨Rs, a, room, st, v, th, rfl, S, hth, k⟩
  rw [if_neg h] at k
  walk_at "go"
  refine v_shelf S 0 rfl ?_
  walk_at "go"
  exact ⟨Rs, a, room, st, v, th, rfl, S, hth, k⟩
abbrev t_l_refusal_8 (K : PySem.W.Frag) (a : Addr) (cls : Value) (d : Option Addr) : TS := (tSeq (tIfS (tTest (tOp (uEq K) (tVar 2) (tC (.int 1)))) (tRet (tTup (tCons (tC (.str "room")) (tCons (tXg K a cls d "room" (tVar 0)) tNil)))) tNext)
  (tRet (tTup (tCons (tOp (uIx K) (tLst (tCons (tC (.str "piece")) (tCons (tC (.str "unlike")) (tCons (tC (.str "broken")) tNil)))) (tOp uSub (tVar 2) (tC (.int 2)))) (tCons (tXg K a cls d "seal" (tVar 0)) tNil)))))
abbrev t_l_refusal_6 (K : PySem.W.Frag) (a : Addr) (cls : Value) (d : Option Addr) : TS := (tSeq (tIfS (tTest (tOp (uEq K) (tVar 2) (tC (.int 0)))) (tRet (tTup (tCons (tC (.str "wrong")) (tCons (tXg K a cls d "at" (tVar 0)) tNil)))) tNext)
  (t_l_refusal_8 K a cls d))
abbrev t_l_refusal_5 (K : PySem.W.Frag) (a : Addr) (cls : Value) (d : Option Addr) : TS := (tSeq (tAsg (tBM K "list" (rIndex K) (tVar 1) (tCons (tC (.bl true)) tNil)) (gName 2))
  (t_l_refusal_6 K a cls d))
abbrev t_l_refusal_3 (K : PySem.W.Frag) (a : Addr) (cls : Value) (d : Option Addr) : TS := (tSeq (tIfS (tTest (tOp (uNe K) (tBM K "list" (rCntV K) (tVar 1) (tCons (tC (.bl true)) tNil)) (tC (.int 1)))) (tRet (tTup (tCons (tC (.str "other")) tNil))) tNext)
  (t_l_refusal_5 K a cls d))
abbrev t_l_refusal_2 (K : PySem.W.Frag) (a : Addr) (cls : Value) (d : Option Addr) : TS := (tSeq (tAsg (tOp (uAdd K) (tVar 1) (tLst (tCons (tCB (uIsX K a cls d) (tCons (tVar 0) (tCons (tC (.ref (He.ga K "Broken"))) tNil))) tNil))) (gName 1))
  (t_l_refusal_3 K a cls d))
abbrev t_l_refusal_1 (K : PySem.W.Frag) (a : Addr) (cls : Value) (d : Option Addr) : TS := (tSeq (tAsg (tLst (tCons (tCB (uIsX K a cls d) (tCons (tVar 0) (tCons (tC (.ref (He.ga K "Wrong"))) tNil))) (tCons (tCB (uIsX K a cls d) (tCons (tVar 0) (tCons (tC (.ref (He.ga K "NoRoom"))) tNil))) (tCons (tCB (uIsX K a cls d) (tCons (tVar 0) (tCons (tC (.ref (He.ga K "NoPiece"))) tNil))) (tCons (tCB (uIsX K a cls d) (tCons (tVar 0) (tCons (tC (.ref (He.ga K "Unlike"))) tNil))) tNil))))) (gName 1))
  (t_l_refusal_2 K a cls d))
abbrev t_l_refusal (K : PySem.W.Frag) (a : Addr) (cls : Value) (d : Option Addr) : TS := (t_l_refusal_1 K a cls d)
theorem pure_l_refusal {K : PySem.W.Frag} (T : TxC K) (a : Addr) (cls : Value) (d : Option Addr) (H : Hp) (Q : VK) (h : sp_l_refusal K a cls d H Q) : t_l_refusal K a cls d { nx := fun _ H' => Q .non H', rt := Q } (L2.start ["_law_e", "_law_some", "_law_at"] [.ref a]) H := by
  obtain ⟨Rs, dd, r, rfl, rfl, S, k⟩ := h
  show t_l_refusal K a _ _ _ [some (V.ref a), none, none] H
  cases r with
  | wrong n =>
    have hx : H dd = some (.xd [("at", .int n)]) := S.got 0 rfl
    walk_at "go"
    refine v_isX T.xc_Wrong (S.got 0 rfl) T.xk_Wrong_Wrong ?_
    walk_at "go"
    refine v_isX T.xc_Wrong (S.got 0 rfl) T.xk_Wrong_NoRoom ?_
    walk_at "go"
    refine v_isX T.xc_Wrong (S.got 0 rfl) T.xk_Wrong_NoPiece ?_
    walk_at "go"
    refine v_isX T.xc_Wrong (S.got 0 rfl) T.xk_Wrong_Unlike ?_
    walk_at "go"
    refine v_lst S (by simp) fun l1 H1 S1 => ?_
    walk_at "go"
    refine v_isX T.xc_Wrong (S1.got 1 rfl) T.xk_Wrong_Broken ?_
    walk_at "go"
    refine v_lst S1 (by simp) fun l2 H2 S2 => ?_
    walk_at "go"
    refine v_catS S2 (SqL.of (S2.got 1 rfl)) (SqL.of (S2.got 0 rfl)) (by simp) fun l3 H3 S3 => ?_
    walk_at "go"
    refine v_tyL (SqL.of (S3.got 0 rfl)) ?_
    walk_at "go"
    refine ⟨l3, _, .bl true, rfl, rfl, SqL.of (S3.got 0 rfl), rfl, rfl, ?_⟩
    walk_at "go"
    refine v_ifN (fun h => absurd rfl h) (fun _ => ?_)
    walk_at "go"
    refine v_tyL (SqL.of (S3.got 0 rfl)) ?_
    walk_at "go"
    refine ⟨l3, _, .bl true, 0, .bl true, rfl, rfl, SqL.of (S3.got 0 rfl), rfl, rfl, rfl, rfl, fun m z hm hz => ?_, ?_⟩
    · exact absurd hm (Nat.not_lt_zero _)
    walk_at "go"
    refine v_ifD (fun _ => ?_) (fun h => absurd rfl h)
    walk_at "go"
    refine v_xg T.xc_Wrong (chN_ok T.xn_Wrong_at) (S3.got 3 rfl) rfl ?_
    walk_at "go"
    refine v_tup S3 (by simp) fun t H9 S9 => ?_
    walk_at "go"
    exact k _ H9 (M.dat2s (fun _ => .int n) (M.sub (.cons 0 rfl (.tl (.tl (.tl (.tl ((.refl _))))))) S9))
  | room n =>
    have hx : H dd = some (.xd [("room", .int n)]) := S.got 0 rfl
    walk_at "go"
    refine v_isX T.xc_NoRoom (S.got 0 rfl) T.xk_NoRoom_Wrong ?_
    walk_at "go"
    refine v_isX T.xc_NoRoom (S.got 0 rfl) T.xk_NoRoom_NoRoom ?_
    walk_at "go"
    refine v_isX T.xc_NoRoom (S.got 0 rfl) T.xk_NoRoom_NoPiece ?_
    walk_at "go"
    refine v_isX T.xc_NoRoom (S.got 0 rfl) T.xk_NoRoom_Unlike ?_
    walk_at "go"
    refine v_lst S (by simp) fun l1 H1 S1 => ?_
    walk_at "go"
    refine v_isX T.xc_NoRoom (S1.got 1 rfl) T.xk_NoRoom_Broken ?_
    walk_at "go"
    refine v_lst S1 (by simp) fun l2 H2 S2 => ?_
    walk_at "go"
    refine v_catS S2 (SqL.of (S2.got 1 rfl)) (SqL.of (S2.got 0 rfl)) (by simp) fun l3 H3 S3 => ?_
    walk_at "go"
    refine v_tyL (SqL.of (S3.got 0 rfl)) ?_
    walk_at "go"
    refine ⟨l3, _, .bl true, rfl, rfl, SqL.of (S3.got 0 rfl), rfl, rfl, ?_⟩
    walk_at "go"
    refine v_ifN (fun h => absurd rfl h) (fun _ => ?_)
    walk_at "go"
    refine v_tyL (SqL.of (S3.got 0 rfl)) ?_
    walk_at "go"
    refine ⟨l3, _, .bl true, 1, .bl true, rfl, rfl, SqL.of (S3.got 0 rfl), rfl, rfl, rfl, rfl, fun m z hm hz => ?_, ?_⟩
    · match m, hm, hz with | 0, _, hz => cases hz; rfl
    walk_at "go"
    refine v_ifD (fun h => absurd h (by decide)) (fun _ => ?_)
    walk_at "go"
    refine v_ifD (fun _ => ?_) (fun h => absurd rfl h)
    walk_at "go"
    refine v_xg T.xc_NoRoom (chN_ok T.xn_NoRoom_room) (S3.got 3 rfl) rfl ?_
    walk_at "go"
    refine v_tup S3 (by simp) fun t H9 S9 => ?_
    walk_at "go"
    exact k _ H9 (M.dat2s (fun _ => .int n) (M.sub (.cons 0 rfl (.tl (.tl (.tl (.tl ((.refl _))))))) S9))
  | piece n =>
    have hx : H dd = some (.xd [("seal", .int n)]) := S.got 0 rfl
    walk_at "go"
    refine v_isX T.xc_NoPiece (S.got 0 rfl) T.xk_NoPiece_Wrong ?_
    walk_at "go"
    refine v_isX T.xc_NoPiece (S.got 0 rfl) T.xk_NoPiece_NoRoom ?_
    walk_at "go"
    refine v_isX T.xc_NoPiece (S.got 0 rfl) T.xk_NoPiece_NoPiece ?_
    walk_at "go"
    refine v_isX T.xc_NoPiece (S.got 0 rfl) T.xk_NoPiece_Unlike ?_
    walk_at "go"
    refine v_lst S (by simp) fun l1 H1 S1 => ?_
    walk_at "go"
    refine v_isX T.xc_NoPiece (S1.got 1 rfl) T.xk_NoPiece_Broken ?_
    walk_at "go"
    refine v_lst S1 (by simp) fun l2 H2 S2 => ?_
    walk_at "go"
    refine v_catS S2 (SqL.of (S2.got 1 rfl)) (SqL.of (S2.got 0 rfl)) (by simp) fun l3 H3 S3 => ?_
    walk_at "go"
    refine v_tyL (SqL.of (S3.got 0 rfl)) ?_
    walk_at "go"
    refine ⟨l3, _, .bl true, rfl, rfl, SqL.of (S3.got 0 rfl), rfl, rfl, ?_⟩
    walk_at "go"
    refine v_ifN (fun h => absurd rfl h) (fun _ => ?_)
    walk_at "go"
    refine v_tyL (SqL.of (S3.got 0 rfl)) ?_
    walk_at "go"
    refine ⟨l3, _, .bl true, 2, .bl true, rfl, rfl, SqL.of (S3.got 0 rfl), rfl, rfl, rfl, rfl, fun m z hm hz => ?_, ?_⟩
    · match m, hm, hz with | 0, _, hz => cases hz; rfl | 1, _, hz => cases hz; rfl
    walk_at "go"
    refine v_ifD (fun h => absurd h (by decide)) (fun _ => ?_)
    walk_at "go"
    refine v_ifD (fun h => absurd h (by decide)) (fun _ => ?_)
    walk_at "go"
    refine v_lst S3 (by simp) fun l4 H4 S4 => ?_
    walk_at "go"
    refine v_xg T.xc_NoPiece (chN_ok T.xn_NoPiece_seal) (S4.got 4 rfl) rfl ?_
    walk_at "go"
    refine v_tup S4 (by simp) fun t H9 S9 => ?_
    walk_at "go"
    exact k _ H9 (M.dat2s (fun _ => .int n) (M.sub (.cons 0 rfl (.tl (.tl (.tl (.tl (.tl ((.refl _)))))))) S9))
  | unlike n =>
    have hx : H dd = some (.xd [("seal", .int n)]) := S.got 0 rfl
    walk_at "go"
    refine v_isX T.xc_Unlike (S.got 0 rfl) T.xk_Unlike_Wrong ?_
    walk_at "go"
    refine v_isX T.xc_Unlike (S.got 0 rfl) T.xk_Unlike_NoRoom ?_
    walk_at "go"
    refine v_isX T.xc_Unlike (S.got 0 rfl) T.xk_Unlike_NoPiece ?_
    walk_at "go"
    refine v_isX T.xc_Unlike (S.got 0 rfl) T.xk_Unlike_Unlike ?_
    walk_at "go"
    refine v_lst S (by simp) fun l1 H1 S1 => ?_
    walk_at "go"
    refine v_isX T.xc_Unlike (S1.got 1 rfl) T.xk_Unlike_Broken ?_
    walk_at "go"
    refine v_lst S1 (by simp) fun l2 H2 S2 => ?_
    walk_at "go"
    refine v_catS S2 (SqL.of (S2.got 1 rfl)) (SqL.of (S2.got 0 rfl)) (by simp) fun l3 H3 S3 => ?_
    walk_at "go"
    refine v_tyL (SqL.of (S3.got 0 rfl)) ?_
    walk_at "go"
    refine ⟨l3, _, .bl true, rfl, rfl, SqL.of (S3.got 0 rfl), rfl, rfl, ?_⟩
    walk_at "go"
    refine v_ifN (fun h => absurd rfl h) (fun _ => ?_)
    walk_at "go"
    refine v_tyL (SqL.of (S3.got 0 rfl)) ?_
    walk_at "go"
    refine ⟨l3, _, .bl true, 3, .bl true, rfl, rfl, SqL.of (S3.got 0 rfl), rfl, rfl, rfl, rfl, fun m z hm hz => ?_, ?_⟩
    · match m, hm, hz with | 0, _, hz => cases hz; rfl | 1, _, hz => cases hz; rfl | 2, _, hz => cases hz; rfl
    walk_at "go"
    refine v_ifD (fun h => absurd h (by decide)) (fun _ => ?_)
    walk_at "go"
    refine v_ifD (fun h => absurd h (by decide)) (fun _ => ?_)
    walk_at "go"
    refine v_lst S3 (by simp) fun l4 H4 S4 => ?_
    walk_at "go"
    refine v_xg T.xc_Unlike (chN_ok T.xn_Unlike_seal) (S4.got 4 rfl) rfl ?_
    walk_at "go"
    refine v_tup S4 (by simp) fun t H9 S9 => ?_
    walk_at "go"
    exact k _ H9 (M.dat2s (fun _ => .int n) (M.sub (.cons 0 rfl (.tl (.tl (.tl (.tl (.tl ((.refl _)))))))) S9))
  | broken n =>
    have hx : H dd = some (.xd [("seal", .int n)]) := S.got 0 rfl
    walk_at "go"
    refine v_isX T.xc_Broken (S.got 0 rfl) T.xk_Broken_Wrong ?_
    walk_at "go"
    refine v_isX T.xc_Broken (S.got 0 rfl) T.xk_Broken_NoRoom ?_
    walk_at "go"
    refine v_isX T.xc_Broken (S.got 0 rfl) T.xk_Broken_NoPiece ?_
    walk_at "go"
    refine v_isX T.xc_Broken (S.got 0 rfl) T.xk_Broken_Unlike ?_
    walk_at "go"
    refine v_lst S (by simp) fun l1 H1 S1 => ?_
    walk_at "go"
    refine v_isX T.xc_Broken (S1.got 1 rfl) T.xk_Broken_Broken ?_
    walk_at "go"
    refine v_lst S1 (by simp) fun l2 H2 S2 => ?_
    walk_at "go"
    refine v_catS S2 (SqL.of (S2.got 1 rfl)) (SqL.of (S2.got 0 rfl)) (by simp) fun l3 H3 S3 => ?_
    walk_at "go"
    refine v_tyL (SqL.of (S3.got 0 rfl)) ?_
    walk_at "go"
    refine ⟨l3, _, .bl true, rfl, rfl, SqL.of (S3.got 0 rfl), rfl, rfl, ?_⟩
    walk_at "go"
    refine v_ifN (fun h => absurd rfl h) (fun _ => ?_)
    walk_at "go"
    refine v_tyL (SqL.of (S3.got 0 rfl)) ?_
    walk_at "go"
    refine ⟨l3, _, .bl true, 4, .bl true, rfl, rfl, SqL.of (S3.got 0 rfl), rfl, rfl, rfl, rfl, fun m z hm hz => ?_, ?_⟩
    · match m, hm, hz with | 0, _, hz => cases hz; rfl | 1, _, hz => cases hz; rfl | 2, _, hz => cases hz; rfl | 3, _, hz => cases hz; rfl
    walk_at "go"
    refine v_ifD (fun h => absurd h (by decide)) (fun _ => ?_)
    walk_at "go"
    refine v_ifD (fun h => absurd h (by decide)) (fun _ => ?_)
    walk_at "go"
    refine v_lst S3 (by simp) fun l4 H4 S4 => ?_
    walk_at "go"
    refine v_xg T.xc_Broken (chN_ok T.xn_Broken_seal) (S4.got 4 rfl) rfl ?_
    walk_at "go"
    refine v_tup S4 (by simp) fun t H9 S9 => ?_
    walk_at "go"
    exact k _ H9 (M.dat2s (fun _ => .int n) (M.sub (.cons 0 rfl (.tl (.tl (.tl (.tl (.tl ((.refl _)))))))) S9))
abbrev t_l_said_2 (K : PySem.W.Frag) : TS := (tSeq (tTry K W0 (fun W => (tAsg (tCallW W (sp_l_deed K) [] (tCons (tVar 0) (tCons (tVar 1) (tCons (tVar 2) (tCons (tVar 3) tNil))))) (gName 4))) [⟨[.ref (He.ga K "StoreError"), .ref (He.ga K "Missing"), .ref (He.ga K "Halted")], some 5, fun a cls d => (tRet (tCallE a cls d (sp_l_refusal K) (tVar 5)))⟩])
  (tRet (tTup (tCons (tC (.str "told")) (tCons (tVar 4) tNil)))))
abbrev t_l_said_1 (K : PySem.W.Frag) : TS := (tSeq (tAsg (tC .non) (gName 4))
  (t_l_said_2 K))
abbrev t_l_said (K : PySem.W.Frag) : TS := (t_l_said_1 K)
abbrev t_l_state_2 (K : PySem.W.Frag) : TS := (tSeq (tFor (iList K (tMethW W0 (He.ga K "Shelf") "seals" (sp_Shelf_seals K) [] (tVar 0) tNil)) (gName 2) (tDrop (tBM K "list" rAppend (tVar 1) (tCons (tLc (iList K (tLst (tCons (tC (.int 6)) (tCons (tC (.int 7)) (tCons (tC (.int 8)) tNil))))) (gName 3) tYes (tCall (sp_l_said K) [] E0 (tCons (tVar 0) (tCons (tVar 3) (tCons (tVar 2) (tCons (tLst tNil) tNil))))) [3]) tNil))))
  (tRet (tVar 1)))
abbrev t_l_state_1 (K : PySem.W.Frag) : TS := (tSeq (tAsg (tLst (tCons (tMethW W0 (He.ga K "Shelf") "seals" (sp_Shelf_seals K) [] (tVar 0) tNil) (tCons (tMethW W0 (He.ga K "Shelf") "broken" (sp_Shelf_broken K) [] (tVar 0) tNil) (tCons (tMethW W0 (He.ga K "Shelf") "free" (sp_Shelf_free K) [] (tVar 0) tNil) (tCons (tCB (rLenI (He.ga K "Shelf") (sp_Shelf___len__ K)) (tCons (tVar 0) tNil)) tNil))))) (gName 1))
  (t_l_state_2 K))
abbrev t_l_state (K : PySem.W.Frag) : TS := (t_l_state_1 K)
theorem pure_l_said {K : PySem.W.Frag} (T : TxC K) (vs : List V) (H : Hp) (Q : VK) (E : XK) (h : sp_l_said K vs H Q E) : t_l_said K { nx := fun _ H' => Q .non H', rt := Q } (L2.start ["_law_shelf", "_law_way", "_law_seal", "_law_signs_here", "_law_found", "_law_e"] vs) H := by
  obtain ⟨Rs, a, room, way, st, v, u, th, tu, rfl, w0, w8, S, hth, htu, k⟩ := h
  show t_l_said K _ [some (V.ref a), some (V.int way), some v, some u, none, none] H
  walk_at "go"
  refine ⟨Rs, a, room, way, st, v, u, th, tu, rfl, w0, w8, S, hth, htu, ?_⟩
  cases e : deedF room st way th tu with
  | error r =>
    rw [e] at k
    intro d H1 S1
    show ∃ b, _
    refine ⟨true, ?_, fun _ a' _ => ?_, fun z => nomatch z⟩
    · cases r with
      | wrong n => exact exm_cons T.xm_Wrong_StoreError (exm_cons T.xm_Wrong_Missing (exm_cons T.xm_Wrong_Halted rfl))
      | room n => exact exm_cons T.xm_NoRoom_StoreError (exm_cons T.xm_NoRoom_Missing (exm_cons T.xm_NoRoom_Halted rfl))
      | piece n => exact exm_cons T.xm_NoPiece_StoreError (exm_cons T.xm_NoPiece_Missing (exm_cons T.xm_NoPiece_Halted rfl))
      | unlike n => exact exm_cons T.xm_Unlike_StoreError (exm_cons T.xm_Unlike_Missing (exm_cons T.xm_Unlike_Halted rfl))
      | broken n => exact exm_cons T.xm_Broken_StoreError (exm_cons T.xm_Broken_Missing (exm_cons T.xm_Broken_Halted rfl))
    · refine g_ret (g_callE (g_var rfl ⟨rfl, _, d, r, rfl, rfl, S1, fun x H2 S2 => ?_⟩))
      exact k x H2 S2
  | ok q =>
    rw [e] at k
    obtain ⟨t, st'⟩ := q
    cases t with
    | non =>
      intro H1 S1
      walk_at "go"
      refine v_tup S1 (by simp) fun t H2 S2 => ?_
      exact k _ H2 (M.dat2s (fun _ => .non) S2)
    | bl b =>
      intro H1 S1
      walk_at "go"
      refine v_tup S1 (by simp) fun t H2 S2 => ?_
      exact k _ H2 (M.dat2s (fun _ => .bl b) S2)
    | int n =>
      intro H1 S1
      walk_at "go"
      refine v_tup S1 (by simp) fun t H2 S2 => ?_
      exact k _ H2 (M.dat2s (fun _ => .int n) S2)
    | lst ns =>
      intro p H1 S1
      walk_at "go"
      refine v_tup S1 (by simp) fun t H2 S2 => ?_
      exact k _ H2 (M.dat2l S2)
/-- three tellings of a seal -/
theorem say3 (st : Shst) (s : Int) (room : Int) : ∀ i : Nat, i < 3 → ∀ way : Int, [(6 : Int), 7, 8][i]? = some way → ∀ tu, (deedF room st way (.int s) tu) = ([heldF st (.int s), isF st (.int s), readF st (.int s)][i]?).getD (.error (.wrong 0)) ∧ (deedF room st way (.int s) tu).st st = st ∧ 0 ≤ way ∧ way ≤ 8 := by
  intro i hi way hw tu
  have key : ∀ kf : Int → Int × Option (List Int) → Oc, (∀ n x, (kf n x).st st = st) → (keptF st (.int s) kf).st st = st := by
    intro kf hk
    unfold keptF
    split
    · rfl
    · split
      · rfl
      · exact hk _ _
  match i, hi, hw with
  | 0, _, hw =>
    cases hw
    exact ⟨rfl, key _ fun _ _ => rfl, by decide, by decide⟩
  | 1, _, hw =>
    cases hw
    exact ⟨rfl, key _ fun _ _ => rfl, by decide, by decide⟩
  | 2, _, hw =>
    cases hw
    refine ⟨rfl, key _ fun n x => ?_, by decide, by decide⟩
    split <;> rfl
def said3 (st : Shst) (s : Int) : List PyData := [(heldF st (.int s)).dat, (isF st (.int s)).dat, (readF st (.int s)).dat]
theorem ThE.lst {K : PySem.W.Frag} {Rs : List Res} {p : Addr} {ns : List Int} (i : Nat) (e : Rs[i]? = some (pt p (.lst (ns.map V.int)))) : ThE K Rs (.ref p) (.lst (ns.map V.int)) := ⟨fun H S => .lst (SqL.of (S.got i e)), fun H _ => items_ints ns⟩
theorem pure_l_state {K : PySem.W.Frag} (T : TxC K) (vs : List V) (H : Hp) (Q : VK) (E : XK) (h : sp_l_state K vs H Q E) : t_l_state K { nx := fun _ H' => Q .non H', rt := Q } (L2.start ["_law_shelf", "_law_found", "_law_seal", "_law_way"] vs) H := by
  obtain ⟨Rs, a, room, st, rfl, S, hz, k⟩ := h
  show t_l_state K _ [some (V.ref a), none, none, none] H
  have hks : (keysS st).length < 64 := by unfold keysS; rw [List.length_map]; exact hz
  walk_at "go"
  refine v_shelf S 0 rfl ?_
  walk_at "go"
  refine ⟨Rs, a, room, st, rfl, S, hz, fun p1 H1 S1 => ?_⟩
  walk_at "go"
  refine v_shelf S1 1 rfl ?_
  walk_at "go"
  refine ⟨pt p1 (.lst ((srt (keysS st)).map V.int)) :: Rs, a, room, st, rfl, S1.perm (.swap _ _ _), hz, fun p2 H2 S2 => ?_⟩
  walk_at "go"
  refine v_shelf S2 1 rfl ?_
  walk_at "go"
  have S2' := M.sub (Rs' := shelfR K a room st :: pt p2 (.lst ((badS st).map V.int)) :: pt p1 (.lst ((srt (keysS st)).map V.int)) :: Rs) (.cons 1 rfl (.cons 0 rfl (.refl _))) S2
  obtain ⟨dx, c, b, es, rfl, ok, S3⟩ := shelf_open S2'
  refine ⟨a, dx, c, b, room, cnts es, rfl, S3.got 0 rfl, S3.got 1 rfl, ?_⟩
  walk_at "go"
  refine ⟨a, dx, [("room", .int room), ("counts", .ref c), ("bodies", .ref b)], rfl, S3.got 0 rfl, a, dx, c, b, room, cnts es, rfl, S3.got 0 rfl, S3.got 1 rfl, _, rfl, by omega, ?_, ?_⟩
  · have := lenE ok
    rw [cnts_len]
    omega
  rw [cnts_len]
  walk_at "go"
  have S4 := shelf_close rfl ok S3
  refine v_lst S4 (by simp) fun l H5 S5 => ?_
  walk_at "go"
  refine v_shelf S5 1 rfl ?_
  walk_at "go"
  refine ⟨_, a, room, es.map absE, rfl, S5.perm (.swap _ _ _), hz, fun p3 H6 S6 => ?_⟩
  refine v_itL (SqL.of (S6.got 0 rfl)) ?_
  -- the rows so far are data
  have S7 : M (pt l (.lst [.ref p1, .ref p2, .int (room - es.length), .int es.length]) :: dtA K [.ref p1, .ref p2, .int (room - es.length), .int es.length] [dI (srt (keysS (es.map absE))), dI (badS (es.map absE)), .int (room - es.length), .int es.length] :: shelfR K a room (es.map absE) :: pt p3 (.lst ((srt (keysS (es.map absE))).map V.int)) :: Rs) H6 := by
    have A1 : M (pt p1 (.lst ((srt (keysS (es.map absE))).map V.int)) :: pt p2 (.lst ((badS (es.map absE)).map V.int)) :: pt l (.lst [.ref p1, .ref p2, .int (room - es.length), .int es.length]) :: shelfR K a room (es.map absE) :: pt p3 (.lst ((srt (keysS (es.map absE))).map V.int)) :: Rs) H6 := M.sub (.cons 4 rfl (.cons 3 rfl (.cons 2 rfl (.cons 1 rfl (.cons 0 rfl (.refl _)))))) S6
    have A2 := (M.fixI (K := K) A1).perm (.swap _ _ _)
    have A3 := (M.fixI (K := K) A2).perm (.swap _ _ _)
    obtain ⟨F, L, ⟨l1, l2, rfl, ⟨rfl, e1⟩, l3, l4, rfl, ⟨rfl, e2⟩, b⟩, mm⟩ := A3
    have A4 : M (dtA K [.ref p1, .ref p2, .int (room - es.length), .int es.length] [dI (srt (keysS (es.map absE))), dI (badS (es.map absE)), .int (room - es.length), .int es.length] :: pt l (.lst [.ref p1, .ref p2, .int (room - es.length), .int es.length]) :: shelfR K a room (es.map absE) :: pt p3 (.lst ((srt (keysS (es.map absE))).map V.int)) :: Rs) H6 :=
      ⟨F, _, ⟨[], l4, rfl, ⟨rfl, .cons e1 (.cons e2 (.cons (.int _) (.cons (.int _) .nil)))⟩, b⟩, mm⟩
    exact A4.perm (.swap _ _ _)
  have hsr : (srt (keysS (es.map absE))).length < 64 := by rw [(srt_perm _).length_eq]; exact hks
  refine for_W walk_list (fun i σ H' => ∃ (vs : List V) (x y : Option V), σ = [some (V.ref a), some (V.ref l), x, y] ∧ vs.length = 4 + i ∧
    M (pt l (.lst vs) :: dtA K vs ([dI (srt (keysS (es.map absE))), dI (badS (es.map absE)), .int (room - es.length), .int es.length] ++ (((srt (keysS (es.map absE))).take i).map fun s => .list (said3 (es.map absE) s))) :: shelfR K a room (es.map absE) :: pt p3 (.lst ((srt (keysS (es.map absE))).map V.int)) :: Rs) H')
    ⟨_, none, none, rfl, rfl, S7⟩ (fun i σ H' _ ⟨vs, x, y, _, _, S⟩ => SqL.of (S.got 3 rfl)) ?_ ?_
  · rintro i x σ H7 H8 hi ⟨vs, x2, y2, rfl, hvl, S8⟩ ⟨rfl, hx⟩
    obtain ⟨s, hs, rfl⟩ := ints_get hx
    rw [List.length_map] at hi
    walk_at "go"
    refine v_tyL (SqL.of (S8.got 0 rfl)) ?_
    walk_at "go"
    refine v_lst S8 (by simp) fun w3 H9 S9 => ?_
    refine v_itL (SqL.of (S9.got 0 rfl)) ?_
    have S10 : M (dtA K [] [] :: shelfR K a room (es.map absE) :: pt w3 (.lst ([6, 7, 8].map V.int)) :: pt l (.lst vs) :: dtA K vs ([dI (srt (keysS (es.map absE))), dI (badS (es.map absE)), .int (room - es.length), .int es.length] ++ (((srt (keysS (es.map absE))).take i).map fun s => .list (said3 (es.map absE) s))) :: pt p3 (.lst ((srt (keysS (es.map absE))).map V.int)) :: Rs) H9 := M.dtA0 (M.sub (.cons 3 rfl (.cons 0 rfl (.cons 0 rfl (.cons 0 rfl (.cons 0 rfl (.refl _)))))) S9)
    refine lc_X walk_list (fun D j H' => ∃ ws, M (pt D (.lst ws) :: dtA K ws ((said3 (es.map absE) s).take j) :: shelfR K a room (es.map absE) :: pt w3 (.lst ([6, 7, 8].map V.int)) :: pt l (.lst vs) :: dtA K vs ([dI (srt (keysS (es.map absE))), dI (badS (es.map absE)), .int (room - es.length), .int es.length] ++ (((srt (keysS (es.map absE))).take i).map fun s => .list (said3 (es.map absE) s))) :: pt p3 (.lst ((srt (keysS (es.map absE))).map V.int)) :: Rs) H' ∧ ws.length = j)
      (fun D hD => ⟨[], S10.new hD, rfl⟩) (fun D j H' _ ⟨ws, S, _⟩ => SqL.of (S.got 3 rfl)) ?_ ?_
    · rintro D j x H10 H11 hj ⟨ws, S11, hw⟩ ⟨rfl, hx2⟩
      obtain ⟨way, hway, rfl⟩ := ints_get hx2
      have hj3 : j < 3 := hj
      walk_at "go"
      refine v_lst S11 (by simp) fun em H12 S12 => ?_
      walk_at "go"
      obtain ⟨e1, e2, e3, e4⟩ := say3 (es.map absE) s room j hj3 way hway (.lst (([] : List Int).map V.int))
      refine ⟨_, a, room, way, es.map absE, .int s, .ref em, .int s, .lst (([] : List Int).map V.int), rfl, e3, e4, M.sub (.cons 3 rfl (.refl _)) S12, ThE.int K _ s, ThE.lst 0 rfl, fun x H13 S13 => ?_⟩
      rw [e1] at S13
      rw [← e1, e2] at S13
      refine lc_next S13 3 rfl (by omega) fun H14 S14 => ⟨ws ++ [x], ?_, by simp [hw]⟩
      have e5 : (said3 (es.map absE) s).take (j + 1) = (said3 (es.map absE) s).take j ++ [(deedF room (es.map absE) way (.int s) (.lst (([] : List Int).map V.int))).dat] := by
        rw [e1]
        match j, hj3 with
        | 0, _ => rfl
        | 1, _ => rfl
        | 2, _ => rfl
      rw [e5]
      have S15 : M (dt K x (deedF room (es.map absE) way (.int s) (.lst (([] : List Int).map V.int))).dat :: dtA K ws ((said3 (es.map absE) s).take j) :: pt D (.lst (ws ++ [x])) :: shelfR K a room (es.map absE) :: pt w3 (.lst ([6, 7, 8].map V.int)) :: pt l (.lst vs) :: dtA K vs ([dI (srt (keysS (es.map absE))), dI (badS (es.map absE)), .int (room - es.length), .int es.length] ++ (((srt (keysS (es.map absE))).take i).map fun s => .list (said3 (es.map absE) s))) :: pt p3 (.lst ((srt (keysS (es.map absE))).map V.int)) :: Rs) H14 := M.sub (.cons 0 rfl (.cons 3 rfl (.cons 2 rfl (.cons 0 rfl (.tl (.refl _)))))) S14
      exact (M.dtA1 S15).perm (.swap _ _ _)
    · rintro D H10 ⟨ws, S11, hw⟩
      have S12 := M.fixL S11
      have e6 : (said3 (es.map absE) s).take [6, 7, 8].length = said3 (es.map absE) s := rfl
      walk_at "go"
      refine v_app S12 3 rfl (by omega) fun H13 S13 => ?_
      walk_at "go"
      refine ⟨vs ++ [.ref D], _, _, rfl, by simp [hvl]; omega, ?_⟩
      have S14 : M (dt K (.ref D) (.list (said3 (es.map absE) s)) :: dtA K vs ([dI (srt (keysS (es.map absE))), dI (badS (es.map absE)), .int (room - es.length), .int es.length] ++ (((srt (keysS (es.map absE))).take i).map fun s => .list (said3 (es.map absE) s))) :: pt l (.lst (vs ++ [.ref D])) :: shelfR K a room (es.map absE) :: pt p3 (.lst ((srt (keysS (es.map absE))).map V.int)) :: Rs) H13 := M.sub (.cons 0 rfl (.cons 3 rfl (.cons 2 rfl (.cons 0 rfl (.tl (.refl _)))))) S13
      have S15 := (M.dtA1 S14).perm (.swap _ _ _)
      rw [take_more hs, List.map_append, ← List.append_assoc]
      exact S15
  · rintro σ H7 ⟨vs, x2, y2, rfl, hvl, S8⟩
    walk_at "go"
    rw [List.length_map, List.take_length] at S8
    refine k _ H7 ?_
    have S9 := M.fixL S8
    have e7 : statD room (es.map absE) = .list ([dI (srt (keysS (es.map absE))), dI (badS (es.map absE)), .int (room - es.length), .int es.length] ++ ((srt (keysS (es.map absE))).map fun s => .list (said3 (es.map absE) s))) := by
      unfold statD said3
      rw [List.length_map]
    rw [e7]
    exact M.sub (.cons 0 rfl (.cons 0 rfl (.tl (.refl _)))) S9
abbrev t_l_state_due_3 (K : PySem.W.Frag) : TS := (tSeq (tFor (iList K (tCB rSortDI (tCons (tVar 0) tNil))) (gName 4) (tDrop (tBM K "list" rAppend (tVar 3) (tCons (tLc (iList K (tLst (tCons (tC (.int 6)) (tCons (tC (.int 7)) (tCons (tC (.int 8)) tNil))))) (gName 5) tYes (tCall (sp_l_due K) [] E0 (tCons (tVar 0) (tCons (tVar 1) (tCons (tVar 5) (tCons (tVar 4) (tCons (tLst tNil) tNil)))))) [5]) tNil))))
  (tRet (tVar 3)))
abbrev t_l_state_due_2 (K : PySem.W.Frag) : TS := (tSeq (tAsg (tLst (tCons (tCB rSortDI (tCons (tVar 0) tNil)) (tCons (tVar 2) (tCons (tOp uSub (tVar 1) (tCB (uLen K) (tCons (tVar 0) tNil))) (tCons (tCB (uLen K) (tCons (tVar 0) tNil)) tNil))))) (gName 3))
  (t_l_state_due_3 K))
abbrev t_l_state_due_1 (K : PySem.W.Frag) : TS := (tSeq (tAsg (tLc (iList K (tCB rSortDI (tCons (tVar 0) tNil))) (gName 4) (tNot (tB (tCall (sp_l_sound K) [] E0 (tCons (tVar 0) (tCons (tVar 4) tNil))))) (tVar 4) [4]) (gName 2))
  (t_l_state_due_2 K))
abbrev t_l_state_due (K : PySem.W.Frag) : TS := (t_l_state_due_1 K)
theorem pure_l_state_due {K : PySem.W.Frag} (vs : List V) (H : Hp) (Q : VK) (E : XK) (h : sp_l_state_due K vs H Q E) : t_l_state_due K { nx := fun _ H' => Q .non H', rt := Q } (L2.start ["_law_model", "_law_room", "_law_bad", "_law_found", "_law_seal", "_law_way"] vs) H := by
  obtain ⟨Rs, m, room, st, rfl, S, hz, k⟩ := h
  show t_l_state_due K _ [some (V.ref m), some (V.int room), none, none, none, none] H
  have hks : (keysS st).length < 64 := by unfold keysS; rw [List.length_map]; exact hz
  have hsr : (srt (keysS st)).length < 64 := by rw [(srt_perm _).length_eq]; exact hks
  obtain ⟨es, rfl, ok, S1⟩ := model_open S
  walk_at "go"
  refine v_sortDI S1 (S1.got 0 rfl) (kvM_keys es) hks fun p H2 S2 => ?_
  walk_at "go"
  refine v_itL (SqL.of (S2.got 0 rfl)) ?_
  refine lc_W walk_list S2 (fun i acc => acc = ((((srt (keysS (es.map absM))).take i).filter fun s => !soundB s ((getS (es.map absM) s).bind (·.2))).map V.int)) rfl (fun H S => SqL.of (S.got 0 rfl)) ?_ ?_
  · rintro i x acc D H3 H4 hi hp S3 ⟨rfl, hx⟩
    obtain ⟨n, hn, rfl⟩ := ints_get hx
    have hm : n ∈ keysS (es.map absM) := (srt_perm _).mem_iff.mp (List.mem_of_getElem? hn)
    obtain ⟨z, hz⟩ := Option.isSome_iff_exists.mp ((getS_isSome (s := n)).trans (decide_eq_true hm))
    rw [getM_abs] at hz
    obtain ⟨⟨q, x, o⟩, hg, _⟩ := Option.map_eq_some_iff.mp hz
    have hs := getM_of hg
    have S4 : M (opM m es (pt D (.lst acc) :: pt p (.lst ((srt (keysS (es.map absM))).map V.int)) :: Rs)) H4 := M.sub (.cons 2 rfl (.cons 2 rfl (.cons 2 rfl (.refl _)))) S3
    walk_at "go"
    refine ⟨_, m, es, room, n, x, q, o, rfl, S4, ok, hg, fun H5 S5 => ?_⟩
    have S6 : M (pt D (.lst acc) :: pt p (.lst ((srt (keysS (es.map absM))).map V.int)) :: opM m es Rs) H5 := M.sub (.cons 3 rfl (.cons 3 rfl (.refl _))) S5
    walk_at "go"
    cases eb : soundB n (o.map (·.2)) with
    | true =>
      walk_at "go"
      refine ⟨acc, ?_, S6⟩
      dsimp only
      rw [hp, take_more hn, List.filter_append, List.map_append]
      have : List.filter (fun s => !soundB s ((getS (es.map absM) s).bind (·.2))) [n] = [] := by
        rw [List.filter_cons_of_neg]
        · rfl
        · rw [hs]
          simp [eb]
      rw [this]
      simp
    | false =>
      walk_at "go"
      refine lc_next S6 0 rfl ?_ fun H6 S7 => ?_
      · rw [hp, List.length_map]
        have := List.length_filter_le (fun s => !soundB s ((getS (es.map absM) s).bind (·.2))) ((srt (keysS (es.map absM))).take i)
        rw [List.length_take] at this
        omega
      · refine ⟨_, ?_, S7⟩
        dsimp only
        rw [hp, take_more hn, List.filter_append, List.map_append]
        have : List.filter (fun s => !soundB s ((getS (es.map absM) s).bind (·.2))) [n] = [n] := by
          rw [List.filter_cons_of_pos]
          · rfl
          · rw [hs]
            simp [eb]
        rw [this]
        simp
  rintro p2 acc H3 hp S3
  rw [List.length_map, List.take_length] at hp
  subst hp
  walk_at "go"
  refine v_sortDI S3 (S3.got 2 rfl) (kvM_keys es) hks fun p1 H4 S4 => ?_
  walk_at "go"
  refine v_lenD (S4.got 3 rfl) ?_
  rw [kvM_len]
  walk_at "go"
  refine v_lenD (S4.got 3 rfl) ?_
  rw [kvM_len]
  walk_at "go"
  refine v_lst S4 (by simp) fun l H5 S5 => ?_
  walk_at "go"
  refine v_sortDI S5 (S5.got 4 rfl) (kvM_keys es) hks fun p3 H6 S6 => ?_
  refine v_itL (SqL.of (S6.got 0 rfl)) ?_
  have S7 : M (pt l (.lst [.ref p1, .ref p2, .int (room - es.length), .int es.length]) :: dtA K [.ref p1, .ref p2, .int (room - es.length), .int es.length] [dI (srt (keysS (es.map absM))), dI (badS (es.map absM)), .int (room - es.length), .int es.length] :: modelR m room (es.map absM) :: pt p3 (.lst ((srt (keysS (es.map absM))).map V.int)) :: Rs) H6 := by
    have A0 : M (opM m es (pt p1 (.lst ((srt (keysS (es.map absM))).map V.int)) :: pt p2 (.lst ((badS (es.map absM)).map V.int)) :: pt l (.lst [.ref p1, .ref p2, .int (room - es.length), .int es.length]) :: pt p3 (.lst ((srt (keysS (es.map absM))).map V.int)) :: Rs)) H6 := M.sub (.cons 5 rfl (.cons 5 rfl (.cons 5 rfl (.cons 2 rfl (.cons 2 rfl (.cons 1 rfl (.cons 0 rfl (.tl (.refl _))))))))) S6
    have A1 : M (pt p1 (.lst ((srt (keysS (es.map absM))).map V.int)) :: pt p2 (.lst ((badS (es.map absM)).map V.int)) :: pt l (.lst [.ref p1, .ref p2, .int (room - es.length), .int es.length]) :: modelR m room (es.map absM) :: pt p3 (.lst ((srt (keysS (es.map absM))).map V.int)) :: Rs) H6 := M.sub (.cons 1 rfl (.cons 1 rfl (.cons 1 rfl (.cons 0 rfl (.refl _))))) (model_close rfl ok A0)
    have A2 := (M.fixI (K := K) A1).perm (.swap _ _ _)
    have A3 := (M.fixI (K := K) A2).perm (.swap _ _ _)
    obtain ⟨F, L, ⟨l1, l2, rfl, ⟨rfl, e1⟩, l3, l4, rfl, ⟨rfl, e2⟩, b⟩, mm⟩ := A3
    have A4 : M (dtA K [.ref p1, .ref p2, .int (room - es.length), .int es.length] [dI (srt (keysS (es.map absM))), dI (badS (es.map absM)), .int (room - es.length), .int es.length] :: pt l (.lst [.ref p1, .ref p2, .int (room - es.length), .int es.length]) :: modelR m room (es.map absM) :: pt p3 (.lst ((srt (keysS (es.map absM))).map V.int)) :: Rs) H6 :=
      ⟨F, _, ⟨[], l4, rfl, ⟨rfl, .cons e1 (.cons e2 (.cons (.int _) (.cons (.int _) .nil)))⟩, b⟩, mm⟩
    exact A4.perm (.swap _ _ _)
  refine for_W walk_list (fun i σ H' => ∃ (vs : List V) (x y : Option V), σ = [some (V.ref m), some (V.int room), some (V.ref p2), some (V.ref l), x, y] ∧ vs.length = 4 + i ∧
    M (pt l (.lst vs) :: dtA K vs ([dI (srt (keysS (es.map absM))), dI (badS (es.map absM)), .int (room - es.length), .int es.length] ++ (((srt (keysS (es.map absM))).take i).map fun s => .list (said3 (es.map absM) s))) :: modelR m room (es.map absM) :: pt p3 (.lst ((srt (keysS (es.map absM))).map V.int)) :: Rs) H')
    ⟨_, none, none, rfl, rfl, S7⟩ (fun i σ H' _ ⟨vs, x, y, _, _, S⟩ => SqL.of (S.got 3 rfl)) ?_ ?_
  · rintro i x σ H7 H8 hi ⟨vs, x2, y2, rfl, hvl, S8⟩ ⟨rfl, hx⟩
    obtain ⟨s, hs, rfl⟩ := ints_get hx
    rw [List.length_map] at hi
    walk_at "go"
    refine v_tyL (SqL.of (S8.got 0 rfl)) ?_
    walk_at "go"
    refine v_lst S8 (by simp) fun w3 H9 S9 => ?_
    refine v_itL (SqL.of (S9.got 0 rfl)) ?_
    have S10 : M (dtA K [] [] :: modelR m room (es.map absM) :: pt w3 (.lst ([6, 7, 8].map V.int)) :: pt l (.lst vs) :: dtA K vs ([dI (srt (keysS (es.map absM))), dI (badS (es.map absM)), .int (room - es.length), .int es.length] ++ (((srt (keysS (es.map absM))).take i).map fun s => .list (said3 (es.map absM) s))) :: pt p3 (.lst ((srt (keysS (es.map absM))).map V.int)) :: Rs) H9 := M.dtA0 (M.sub (.cons 3 rfl (.cons 0 rfl (.cons 0 rfl (.cons 0 rfl (.cons 0 rfl (.refl _)))))) S9)
    refine lc_X walk_list (fun D j H' => ∃ ws, M (pt D (.lst ws) :: dtA K ws ((said3 (es.map absM) s).take j) :: modelR m room (es.map absM) :: pt w3 (.lst ([6, 7, 8].map V.int)) :: pt l (.lst vs) :: dtA K vs ([dI (srt (keysS (es.map absM))), dI (badS (es.map absM)), .int (room - es.length), .int es.length] ++ (((srt (keysS (es.map absM))).take i).map fun s => .list (said3 (es.map absM) s))) :: pt p3 (.lst ((srt (keysS (es.map absM))).map V.int)) :: Rs) H' ∧ ws.length = j)
      (fun D hD => ⟨[], S10.new hD, rfl⟩) (fun D j H' _ ⟨ws, S, _⟩ => SqL.of (S.got 3 rfl)) ?_ ?_
    · rintro D j x H10 H11 hj ⟨ws, S11, hw⟩ ⟨rfl, hx2⟩
      obtain ⟨way, hway, rfl⟩ := ints_get hx2
      have hj3 : j < 3 := hj
      walk_at "go"
      refine v_lst S11 (by simp) fun em H12 S12 => ?_
      walk_at "go"
      obtain ⟨e1, e2, e3, e4⟩ := say3 (es.map absM) s room j hj3 way hway (.lst (([] : List Int).map V.int))
      refine ⟨_, m, room, way, es.map absM, .int s, .ref em, .int s, .lst (([] : List Int).map V.int), rfl, e3, e4, fun _ => ⟨_, rfl⟩, M.sub (.cons 3 rfl (.refl _)) S12, ThE.int K _ s, ThE.lst 0 rfl, fun x H13 S13 => ?_⟩
      rw [e1] at S13
      rw [← e1, e2] at S13
      refine lc_next S13 3 rfl (by omega) fun H14 S14 => ⟨ws ++ [x], ?_, by simp [hw]⟩
      have e5 : (said3 (es.map absM) s).take (j + 1) = (said3 (es.map absM) s).take j ++ [(deedF room (es.map absM) way (.int s) (.lst (([] : List Int).map V.int))).dat] := by
        rw [e1]
        match j, hj3 with
        | 0, _ => rfl
        | 1, _ => rfl
        | 2, _ => rfl
      rw [e5]
      have S15 : M (dt K x (deedF room (es.map absM) way (.int s) (.lst (([] : List Int).map V.int))).dat :: dtA K ws ((said3 (es.map absM) s).take j) :: pt D (.lst (ws ++ [x])) :: modelR m room (es.map absM) :: pt w3 (.lst ([6, 7, 8].map V.int)) :: pt l (.lst vs) :: dtA K vs ([dI (srt (keysS (es.map absM))), dI (badS (es.map absM)), .int (room - es.length), .int es.length] ++ (((srt (keysS (es.map absM))).take i).map fun s => .list (said3 (es.map absM) s))) :: pt p3 (.lst ((srt (keysS (es.map absM))).map V.int)) :: Rs) H14 := M.sub (.cons 0 rfl (.cons 3 rfl (.cons 2 rfl (.cons 0 rfl (.tl (.refl _)))))) S14
      exact (M.dtA1 S15).perm (.swap _ _ _)
    · rintro D H10 ⟨ws, S11, hw⟩
      have S12 := M.fixL S11
      have e6 : (said3 (es.map absM) s).take [6, 7, 8].length = said3 (es.map absM) s := rfl
      walk_at "go"
      refine v_app S12 3 rfl (by omega) fun H13 S13 => ?_
      walk_at "go"
      refine ⟨vs ++ [.ref D], _, _, rfl, by simp [hvl]; omega, ?_⟩
      have S14 : M (dt K (.ref D) (.list (said3 (es.map absM) s)) :: dtA K vs ([dI (srt (keysS (es.map absM))), dI (badS (es.map absM)), .int (room - es.length), .int es.length] ++ (((srt (keysS (es.map absM))).take i).map fun s => .list (said3 (es.map absM) s))) :: pt l (.lst (vs ++ [.ref D])) :: modelR m room (es.map absM) :: pt p3 (.lst ((srt (keysS (es.map absM))).map V.int)) :: Rs) H13 := M.sub (.cons 0 rfl (.cons 3 rfl (.cons 2 rfl (.cons 0 rfl (.tl (.refl _)))))) S13
      have S15 := (M.dtA1 S14).perm (.swap _ _ _)
      rw [take_more hs, List.map_append, ← List.append_assoc]
      exact S15
  · rintro σ H7 ⟨vs, x2, y2, rfl, hvl, S8⟩
    walk_at "go"
    rw [List.length_map, List.take_length] at S8
    refine k _ H7 ?_
    have S9 := M.fixL S8
    have e7 : statD room (es.map absM) = .list ([dI (srt (keysS (es.map absM))), dI (badS (es.map absM)), .int (room - es.length), .int es.length] ++ ((srt (keysS (es.map absM))).map fun s => .list (said3 (es.map absM) s))) := by
      unfold statD said3
      rw [List.length_map]
    rw [e7]
    exact M.sub (.cons 0 rfl (.cons 0 rfl (.tl (.refl _)))) S9
/-! ### sizes -/
def Bnd (n : Nat) (st : Shst) : Prop := st.length ≤ n ∧ ∀ e ∈ st, e.2.1 ≤ (n : Int)
theorem Bnd.mono {n m : Nat} {st : Shst} (h : Bnd n st) (l : n ≤ m) : Bnd m st := ⟨Nat.le_trans h.1 l, fun e he => by have := h.2 e he; omega⟩
theorem len_setS {st : Shst} {s : Int} {x : Int × Option (List Int)} : (setS st s x).length ≤ st.length + 1 := by
  unfold setS
  split
  · rw [List.length_map]
    omega
  · rw [List.length_append]
    simp
theorem Bnd.set {n : Nat} {st : Shst} {s : Int} {x : Int × Option (List Int)} (h : Bnd n st) (hx : x.1 ≤ (n : Int) + 1) : Bnd (n + 1) (setS st s x) := by
  refine ⟨Nat.le_trans len_setS (Nat.succ_le_succ h.1), fun e he => ?_⟩
  rcases mem_setS he with z | rfl
  · have := h.2 e z
    omega
  · show x.1 ≤ _
    omega
theorem Bnd.del {n : Nat} {st : Shst} {s : Int} (h : Bnd n st) : Bnd (n + 1) (delS st s) := by
  refine ⟨?_, fun e he => ?_⟩
  · have := h.1
    have h2 : (delS st s).length ≤ st.length := List.length_filter_le ..
    omega
  · have := h.2 e (List.mem_filter.mp he).1
    omega
theorem Bnd.get {n : Nat} {st : Shst} {s : Int} {x : Int × Option (List Int)} (h : Bnd n st) (hg : getS st s = some x) : x.1 ≤ (n : Int) := h.2 _ (getS_mem hg)
theorem Bnd.deed {n : Nat} {st : Shst} {room way : Int} {s g : Thing} (h : Bnd n st) : Bnd (n + 1) ((deedF room st way s g).st st) := by
  have same : Bnd (n + 1) st := h.mono (Nat.le_succ n)
  have kept : ∀ kf : Int → Int × Option (List Int) → Oc, (∀ m x, getS st m = some x → Bnd (n + 1) ((kf m x).st st)) → Bnd (n + 1) ((keptF st s kf).st st) := by
    intro kf hk
    unfold keptF
    split
    · exact same
    · split
      · exact same
      · exact hk _ _ (by assumption)
  have kept2 : ∀ (lo : Int) (kf : Int → Int × Option (List Int) → List Int → Oc), (∀ m x ns, getS st m = some x → Bnd (n + 1) ((kf m x ns).st st)) → Bnd (n + 1) ((kept2F st s g lo kf).st st) := by
    intro lo kf hk
    unfold kept2F
    split
    · exact same
    · split
      · exact same
      · split
        · exact same
        · exact hk _ _ _ (by assumption)
  unfold deedF
  split
  · unfold layF
    split
    · exact same
    · split
      · split
        · exact same
        · exact h.set (by show (1 : Int) ≤ _; omega)
      · exact h.set (by have := h.get (by assumption); show _ + 1 ≤ (n : Int) + 1; omega)
  split
  · exact kept _ fun m x hx => h.set (by have := h.get hx; show x.1 + 1 ≤ _; omega)
  split
  · refine kept _ fun m x hx => ?_
    split
    · exact h.set (by have := h.get hx; show x.1 - 1 ≤ _; omega)
    · exact h.del
  split
  · exact kept2 _ _ fun m x ns hx => h.set (by have := h.get hx; show x.1 ≤ _; omega)
  split
  · exact kept _ fun m x hx => h.set (by have := h.get hx; show x.1 ≤ _; omega)
  split
  · refine kept2 _ _ fun m x ns hx => ?_
    split
    · exact same
    · exact h.set (by have := h.get hx; show x.1 ≤ _; omega)
  split
  · exact kept _ fun m x hx => same
  split
  · exact kept _ fun m x hx => same
  · refine kept _ fun m x hx => ?_
    split <;> exact same
theorem Sh.str {s : Str} {k : Nat} (h : ((PyData.str s).showable && ((PyData.str s).canLay0 && ((PyData.str s).leavesShort 400 && (decide ((PyData.str s).depth ≤ 0) && decide ((PyData.str s).bulk ≤ k))))) = true) : Sh 0 k (.str s) := by
  simp only [Bool.and_eq_true, decide_eq_true_eq] at h
  exact ⟨h.1, h.2.1, h.2.2.1, h.2.2.2.1, h.2.2.2.2⟩
theorem back_lt {n : Int} (h : (backN n).isSome = true) : n.natAbs < 2 ^ 1000 := by
  have h1 : ¬ ¬ (1 ≤ n ∧ n ≤ 1001 ^ 17) := fun z => by
    rw [back_big z] at h
    cases h
  have h2 : 1 ≤ n ∧ n ≤ 1001 ^ 17 := Decidable.not_not.mp h1
  have h3 : (1001 : Int) ^ 17 < 2 ^ 1000 := by decide +kernel
  omega
theorem Rf.sh {r : Rf} (h : r.val.natAbs < 2 ^ 1000) : Sh 1 22 (.tuple [.str r.word, .int r.val]) := by
  refine (Sh.tuple (dp := 0) (bk := 10) (ds := [.str r.word, .int r.val]) fun d hd => ?_).up (by decide) (by simp)
  rcases List.mem_cons.mp hd with rfl | hd
  · cases r with
    | wrong i => exact Sh.str (s := "wrong") (by decide +kernel)
    | room i => exact Sh.str (s := "room") (by decide +kernel)
    | piece i => exact Sh.str (s := "piece") (by decide +kernel)
    | unlike i => exact Sh.str (s := "unlike") (by decide +kernel)
    | broken i => exact Sh.str (s := "broken") (by decide +kernel)
  · cases List.mem_singleton.mp hd
    exact (Sh.int h).up (by decide) (by decide)
def RfOk : Rf → Prop := fun r => r.val.natAbs < 2 ^ 1000
def TdOk : Told → Prop
  | .int n => n.natAbs < 2 ^ 1000
  | .lst ns => ns.length ≤ 16 ∧ ∀ n ∈ ns, 0 ≤ n ∧ n ≤ 999
  | _ => True
def OcOk : Oc → Prop
  | .error r => RfOk r
  | .ok t => TdOk t.1
theorem OcOk.sh {o : Oc} (h : OcOk o) : Sh 2 34 o.dat := by
  cases o with
  | error r => exact (Rf.sh h).up (by decide) (by decide)
  | ok t =>
    obtain ⟨t, st⟩ := t
    refine (Sh.tuple (dp := 1) (bk := 16) (ds := [.str "told", t.dat]) fun d hd => ?_).up (by decide) (by simp)
    rcases List.mem_cons.mp hd with rfl | hd
    · exact (Sh.str (k := 10) (by decide +kernel)).up (by decide) (by decide)
    · cases List.mem_singleton.mp hd
      cases t with
      | non => exact Sh.none.up (by decide) (by decide)
      | bl b => exact (Sh.bool b).up (by decide) (by decide)
      | int n => exact (Sh.int h).up (by decide) (by decide)
      | lst ns => exact Sh.ints (fun n hn => by have := h.2 n hn; have e : (2 : Nat) ^ 10 ≤ 2 ^ 1000 := Nat.pow_le_pow_right (by decide) (by decide); omega) h.1
theorem small_lt {n : Int} (h0 : -1000000 ≤ n) (h1 : n ≤ 1000000) : n.natAbs < 2 ^ 1000 := by
  have e : (2 : Nat) ^ 20 ≤ 2 ^ 1000 := Nat.pow_le_pow_right (by decide) (by decide)
  omega
theorem deed_ok {room : Int} {st : Shst} {way : Int} {s g : Thing} {n : Nat} (ok : ShOk room st) (hb : Bnd n st) (hn : n ≤ 100000) : OcOk (deedF room st way s g) := by
  have hr1 := ok.r1
  have hr2 := ok.r2
  have kept : ∀ kf : Int → Int × Option (List Int) → Oc, (∀ m x, (backN m).isSome = true → getS st m = some x → OcOk (kf m x)) → OcOk (keptF st s kf) := by
    intro kf hk
    unfold keptF
    split
    · exact small_lt (by show (-1000000 : Int) ≤ 0; decide) (by show (0 : Int) ≤ 1000000; decide)
    · rename_i m hm
      have hm2 := (sealT_some hm).2
      split
      · exact back_lt hm2
      · exact hk _ _ hm2 (by assumption)
  have kept2 : ∀ (lo : Int) (kf : Int → Int × Option (List Int) → List Int → Oc), (∀ m x ns, (backN m).isSome = true → getS st m = some x → OcOk (kf m x ns)) → OcOk (kept2F st s g lo kf) := by
    intro lo kf hk
    unfold kept2F
    split
    · exact small_lt (by show (-1000000 : Int) ≤ 0; decide) (by show (0 : Int) ≤ 1000000; decide)
    · rename_i m hm
      have hm2 := (sealT_some hm).2
      split
      · exact small_lt (by show (-1000000 : Int) ≤ 1; decide) (by show (1 : Int) ≤ 1000000; decide)
      · split
        · exact back_lt hm2
        · exact hk _ _ _ hm2 (by assumption)
  unfold deedF
  split
  · unfold layF
    split
    · exact small_lt (by show (-1000000 : Int) ≤ 0; decide) (by show (0 : Int) ≤ 1000000; decide)
    · rename_i ns hns
      obtain ⟨_, l1, l2, l3⟩ := signsT_ok hns
      have hs : (backN (sealN ns)).isSome = true := sealN_ok ⟨by omega, by omega, l3⟩
      split
      · split
        · exact small_lt (by show (-1000000 : Int) ≤ room; omega) (by show room ≤ 1000000; omega)
        · exact back_lt hs
      · exact back_lt hs
  split
  · exact kept _ fun m x _ hx => trivial
  split
  · refine kept _ fun m x _ hx => ?_
    split <;> exact trivial
  split
  · exact kept2 _ _ fun m x ns _ hx => trivial
  split
  · exact kept _ fun m x _ hx => trivial
  split
  · refine kept2 _ _ fun m x ns hm hx => ?_
    split
    · exact back_lt hm
    · exact trivial
  split
  · refine kept _ fun m x _ hx => ?_
    have h1 := hb.get hx
    have h2 : 1 ≤ x.1 := ok.ct _ (getS_mem hx)
    exact small_lt (by show (-1000000 : Int) ≤ x.1; omega) (by show x.1 ≤ 1000000; omega)
  split
  · exact kept _ fun m x _ hx => trivial
  · refine kept _ fun m x hm hx => ?_
    split
    · cases e : x.2 with
      | none => exact ⟨Nat.zero_le _, fun _ h => nomatch h⟩
      | some ns => exact ok.bd _ (getS_mem hx) ns e
    · exact back_lt hm
theorem stat_sh {room : Int} {st : Shst} {n : Nat} (ok : ShOk room st) (hb : Bnd n st) (hn : n ≤ 100000) (hl : st.length < 64) : Shw (statD room st) := by
  have hr1 := ok.r1
  have hr2 := ok.r2
  have hk : ∀ s ∈ srt (keysS st), s.natAbs < 2 ^ 1000 := fun s hs => by
    obtain ⟨e, he, rfl⟩ := List.mem_map.mp ((srt_perm _).mem_iff.mp hs)
    exact back_lt (ok.sl e he)
  have hkl : (srt (keysS st)).length ≤ 64 := by
    rw [(srt_perm _).length_eq]
    unfold keysS
    rw [List.length_map]
    omega
  have row : ∀ d ∈ [dI (srt (keysS st)), dI (badS st), .int (room - st.length), .int st.length] ++ (srt (keysS st)).map (fun s => .list [(heldF st (.int s)).dat, (isF st (.int s)).dat, (readF st (.int s)).dat]), Sh 3 105 d := by
    intro d hd
    rcases List.mem_append.mp hd with hd | hd
    · simp only [List.mem_cons, List.not_mem_nil, or_false] at hd
      rcases hd with rfl | rfl | rfl | rfl
      · exact (Sh.ints hk hkl).up (by decide) (by decide)
      · refine (Sh.ints (k := 64) (fun s hs => hk s (List.mem_filter.mp hs).1) ?_).up (by decide) (by decide)
        exact Nat.le_trans (List.length_filter_le ..) hkl
      · exact (Sh.int (small_lt (by omega) (by omega))).up (by decide) (by decide)
      · exact (Sh.int (small_lt (by omega) (by omega))).up (by decide) (by decide)
    · obtain ⟨s, _, rfl⟩ := List.mem_map.mp hd
      refine (Sh.list (dp := 2) (bk := 34) (ds := [(heldF st (.int s)).dat, (isF st (.int s)).dat, (readF st (.int s)).dat]) fun d hd => ?_).up (by decide) (by simp)
      simp only [List.mem_cons, List.not_mem_nil, or_false] at hd
      rcases hd with rfl | rfl | rfl
      · exact (deed_ok (way := 6) (s := .int s) (g := .oth) ok hb hn).sh
      · exact (deed_ok (way := 7) (s := .int s) (g := .oth) ok hb hn).sh
      · exact (deed_ok (way := 8) (s := .int s) (g := .oth) ok hb hn).sh
  have z := (Sh.list row).up (dp' := 4) (bk' := 8000) (by decide) (by
    rw [List.length_append, List.length_map]
    simp only [List.length_cons, List.length_nil]
    omega)
  exact z.shw (by decide) (by decide)
theorem oc_shw {room : Int} {st : Shst} {way : Int} {s g : Thing} {n : Nat} (ok : ShOk room st) (hb : Bnd n st) (hn : n ≤ 100000) : Shw (deedF room st way s g).dat := (deed_ok ok hb hn).sh.shw (by decide) (by decide)
theorem shelf_ok {K : PySem.W.Frag} {a : Addr} {room : Int} {st : Shst} {Rs : List Res} {H : Hp} (S : M Rs H) (i : Nat) (e : Rs[i]? = some (shelfR K a room st)) : ShOk room st := by
  obtain ⟨_, _, _, _, _, h, _⟩ := shelf_open (S.at i e)
  exact h
abbrev t_l_signs_4 (K : PySem.W.Frag) : TS := (tSeq (tIfS (tTest (tOp (uEq K) (tCall (sp_l_take K) [] E0 (tCons (tVar 0) (tCons (tC (.int 6)) tNil))) (tC (.int 0)))) (tAsg (tC (.int 999)) (gSub (tVar 3) (tCall (sp_l_take K) [] E0 (tCons (tVar 0) (tCons (tVar 1) tNil))) uSet)) tNext)
  (tRet (tVar 3)))
abbrev t_l_signs_3 (K : PySem.W.Frag) : TS := (tSeq (tAsg (tLc (iRng1 (tCons (tVar 1) tNil)) (gName 4) tYes (tCall (sp_l_take K) [] E0 (tCons (tVar 0) (tCons (tVar 2) tNil))) [4]) (gName 3))
  (t_l_signs_4 K))
abbrev t_l_signs_2 (K : PySem.W.Frag) : TS := (tSeq (tAsg (tOp (uIx K) (tLst (tCons (tC (.int 1000)) (tCons (tC (.int 2)) (tCons (tC (.int 1000)) tNil)))) (tCall (sp_l_take K) [] E0 (tCons (tVar 0) (tCons (tC (.int 3)) tNil)))) (gName 2))
  (t_l_signs_3 K))
abbrev t_l_signs_1 (K : PySem.W.Frag) : TS := (tSeq (tAsg (tOp (uIx K) (tLst (tCons (tC (.int 1)) (tCons (tC (.int 2)) (tCons (tOp (uAdd K) (tC (.int 1)) (tCall (sp_l_take K) [] E0 (tCons (tVar 0) (tCons (tC (.int 16)) tNil)))) (tCons (tC (.int 16)) tNil))))) (tCall (sp_l_take K) [] E0 (tCons (tVar 0) (tCons (tC (.int 4)) tNil)))) (gName 1))
  (t_l_signs_2 K))
abbrev t_l_signs (K : PySem.W.Frag) : TS := (t_l_signs_1 K)
theorem len_l_signs {K : PySem.W.Frag} (vs : List V) (H : Hp) (Q : VK) (E : XK) (h : sp_l_signs K vs H Q E) : vs.length = 1 := by
  obtain ⟨Rs, a, rfl, _⟩ := h
  rfl
theorem pure_l_signs {K : PySem.W.Frag} (vs : List V) (H : Hp) (Q : VK) (E : XK) (h : sp_l_signs K vs H Q E) : t_l_signs K { nx := fun _ H' => Q .non H', rt := Q } (start ["_law_bag_here", "_law_many", "_law_top", "_law_found", "_law_k"] vs) H := by
  obtain ⟨Rs, bag, rfl, S, k⟩ := h
  show t_l_signs K _ [some (V.ref bag), none, none, none, none] H
  walk_at "go"
  refine u_take S (by decide) fun v1 H1 l1 u1 S1 => ?_
  walk_at "go"
  refine v_lst S1 (by simp) fun p2 H2 S2 => ?_
  walk_at "go"
  refine u_take (S2.at 1 rfl) (by decide) fun v3 H3 l3 u3 S3 => ?_
  obtain ⟨many, ⟨lm, um⟩, em⟩ := menuI (xs := [V.int 1, V.int 2, V.int (1 + v1), V.int 16]) (v := v3) (fun n => 1 ≤ n ∧ n ≤ 16) (by simp only [AllI, and_true]; omega) l3 u3
  refine v_ixL (SqL.of (S3.got 1 rfl)) em ?_
  walk_at "go"
  refine v_lst (S3.at 1 rfl).tl (by simp) fun p4 H4 S4 => ?_
  walk_at "go"
  refine u_take (S4.at 1 rfl) (by decide) fun v5 H5 l5 u5 S5 => ?_
  obtain ⟨tp, ⟨lt, ut⟩, et⟩ := menuI (xs := [V.int 1000, V.int 2, V.int 1000]) (v := v5) (fun n => 2 ≤ n ∧ n ≤ 1000) (by simp only [AllI, and_true]; omega) l5 u5
  refine v_ixL (SqL.of (S5.got 1 rfl)) et ?_
  walk_at "go"
  refine v_itR (by omega) ?_
  have S6 : M (bagR bag :: Rs) H5 := (S5.at 1 rfl).tl
  refine lc_W walk_range S6 (fun i acc => ∃ ms : List Int, acc = ms.map V.int ∧ ms.length = i ∧ ∀ n ∈ ms, 0 ≤ n ∧ n ≤ 999) ⟨[], rfl, rfl, (fun _ h => nomatch h)⟩ (fun _ _ => trivial) ?_ ?_
  · rintro i x acc E H H' hi ⟨ms, rfl, hm, hn⟩ S ⟨rfl, rfl⟩
    walk_at "go"
    refine u_take (S.at 1 rfl) (by omega) fun v H2 l u S2 => ?_
    refine lc_next (S2.at 1 rfl) 0 rfl (by rw [List.length_map]; omega) fun H' S' => ?_
    refine ⟨_, ⟨ms ++ [v], by simp, by simp [hm], fun m h => ?_⟩, S'⟩
    rcases List.mem_append.mp h with h | h
    · exact hn m h
    · cases List.mem_singleton.mp h
      omega
  · rintro E acc H ⟨ms, rfl, hm, hn⟩ S
    walk_at "go"
    refine u_take (S.at 1 rfl) (by decide) fun v H2 l u S2 => ?_
    walk_at "go"
    refine v_ifD (fun h => ?_) (fun h => ?_)
    · walk_at "go"
      refine u_take S2 (by omega) fun v2 H3 l u S3 => ?_
      refine v_set S3 1 rfl (ixN_int l (by rw [List.length_map]; omega)) fun H4 S4 => ?_
      have S5 : M (bagR bag :: pt E (.lst ((ms.set v2.toNat 999).map V.int)) :: Rs) H4 := by
        rw [← map_set]
        exact S4
      walk_at "go"
      refine k E _ _ ⟨by rw [set_len]; omega, by rw [set_len]; omega, fun n hn2 => ?_⟩ S5
      rcases List.mem_or_eq_of_mem_set hn2 with h | rfl
      · exact hn n h
      · omega
    · walk_at "go"
      exact k E _ _ ⟨by omega, by omega, hn⟩ S2
abbrev t_l_pool_5 (K : PySem.W.Frag) : TS := (tSeq (tAsg (tLst (tCons (tCall (sp_l_take K) [] E0 (tCons (tVar 0) (tCons (tC (.int 1000)) tNil))) tNil)) (gName 4))
  (tDrop (tBM K "list" rAppend (tVar 1) (tCons (tOp (uIx K) (tLst (tCons (tVar 3) (tCons (tOrT K (tSl (uSl K) (tVar 3) (tPart (tC (.int 1))) tNoPart) (tVar 4)) (tCons (tSl (uSl K) (tOp (uAdd K) (tVar 3) (tVar 4)) (tPart (tUn (rU fun i => .int (-i)) (tC (.int 16)))) tNoPart) (tCons (tCall (sp_l_signs K) [] E0 (tCons (tVar 0) tNil)) tNil))))) (tCall (sp_l_take K) [] E0 (tCons (tVar 0) (tCons (tC (.int 4)) tNil)))) tNil))))
abbrev t_l_pool_4 (K : PySem.W.Frag) : TS := (tSeq (tAsg (tCall (sp_l_take K) [] E0 (tCons (tVar 0) (tCons (tC (.int 1000)) tNil))) (gSub (tVar 3) (tCall (sp_l_take K) [] E0 (tCons (tVar 0) (tCons (tCB (uLen K) (tCons (tVar 3) tNil)) tNil))) uSet))
  (t_l_pool_5 K))
abbrev t_l_pool_3 (K : PySem.W.Frag) : TS := (tSeq (tAsg (tCB (rListOf K) (tCons (tOp (uIx K) (tVar 1) (tCall (sp_l_take K) [] E0 (tCons (tVar 0) (tCons (tCB (uLen K) (tCons (tVar 1) tNil)) tNil)))) tNil)) (gName 3))
  (t_l_pool_4 K))
abbrev t_l_pool_2 (K : PySem.W.Frag) : TS := (tSeq (tFor (iRng1 (tCons (tOp (uAdd K) (tC (.int 1)) (tCall (sp_l_take K) [] E0 (tCons (tVar 0) (tCons (tC (.int 5)) tNil)))) tNil)) (gName 2) (t_l_pool_3 K))
  (tRet (tVar 1)))
abbrev t_l_pool_1 (K : PySem.W.Frag) : TS := (tSeq (tAsg (tLst (tCons (tCall (sp_l_signs K) [] E0 (tCons (tVar 0) tNil)) tNil)) (gName 1))
  (t_l_pool_2 K))
abbrev t_l_pool (K : PySem.W.Frag) : TS := (t_l_pool_1 K)
/-! ### the pool of pieces -/
structure Pool (ls : List (Addr × List Int)) : Prop where
  lo : 1 ≤ ls.length
  hi : ls.length ≤ 7
  sg : ∀ q ∈ ls, Signs 1 16 q.2
def sp_l_pool (K : PySem.W.Frag) : Sp := fun vs H Q _ => ∃ (Rs : List Res) (bag : Addr), vs = [.ref bag] ∧ M (bagR bag :: Rs) H ∧ ∀ p ls H', Pool ls → 2 ≤ ls.length → M (bagR bag :: fz p (.lst (rfs ls)) :: fzs ls :: Rs) H' → Q (.ref p) H'
theorem len_l_pool {K : PySem.W.Frag} (vs : List V) (H : Hp) (Q : VK) (E : XK) (h : sp_l_pool K vs H Q E) : vs.length = 1 := by
  obtain ⟨Rs, bag, rfl, _⟩ := h
  rfl
theorem cut_last (xs : List V) : cutV xs (some (-16)) none = xs.drop (xs.length - 16) := by
  unfold cutV
  rw [HT.sIx_none]
  have e : HT.sIx xs.length 0 (some (-16)) = xs.length - 16 := by
    show (if (-16 : Int) < 0 then ((-16 : Int) + (xs.length : Int)).toNat else min (-16 : Int).toNat xs.length) = _
    rw [if_pos (by decide)]
    omega
  rw [e, List.take_of_length_le]
  rw [List.length_drop]
  omega
theorem g_orT {K : PySem.W.Frag} {σ : L2.St} {H : Hp} {Q : VK} {ta tb : TE} (k : ta σ H fun x H1 => ∃ k, TruV K x H1 k ∧ if k = true then Q x H1 else tb σ H1 Q) : tOrT K ta tb σ H Q := k
theorem v_orT {σ : L2.St} {H : Hp} {Q : VK} {b : Bool} {x y : V} {i : Nat} (h : σ[i]? = some (some y)) (k : ∀ z, (b = true ∧ z = x) ∨ (b = false ∧ z = y) → Q z H) : if b = true then Q x H else tVar i σ H Q := by
  cases b with
  | true => exact k x (.inl ⟨rfl, rfl⟩)
  | false => exact ⟨y, h, k y (.inr ⟨rfl, rfl⟩)⟩
theorem M.fzsS {ls gs : List (Addr × List Int)} {Rs : List Res} {H : Hp} (h : ∀ q ∈ ls, q ∈ gs) (S : M (fzs gs :: Rs) H) : M (fzs ls :: Rs) H := by
  obtain ⟨F, L, ⟨l1, l2, rfl, ⟨rfl, e⟩, b⟩, m⟩ := S
  exact ⟨F, l2, ⟨[], l2, rfl, ⟨rfl, fun q hq => e q (h q hq)⟩, b⟩, m⟩
theorem fz_add {p : Addr} {ns : List Int} {ls : List (Addr × List Int)} {Rs : List Res} {H : Hp} (S : M (pt p (.lst (ns.map V.int)) :: fzs ls :: Rs) H) : M (fzs (ls ++ [(p, ns)]) :: Rs) H := M.fzs1 S
theorem u_l_signs {K : PySem.W.Frag} {Rs : List Res} {H : Hp} {bag : Addr} {Q : VK} {E : XK} (S : M (bagR bag :: Rs) H) (k : ∀ p ns H', Signs 1 16 ns → M (bagR bag :: pt p (.lst (ns.map V.int)) :: Rs) H' → Q (.ref p) H') : sp_l_signs K ([.ref bag] ++ []) H Q E := ⟨Rs, bag, rfl, S, k⟩
theorem signs_mem {ns : List Int} {x : Int} {j : Nat} (h : Signs 1 16 ns) (hx : 0 ≤ x ∧ x ≤ 999) : Signs 1 16 (ns.set j x) := by
  refine ⟨by rw [set_len]; exact h.lo, by rw [set_len]; exact h.hi, fun n hn => ?_⟩
  rcases List.mem_or_eq_of_mem_set hn with z | rfl
  · exact h.sg n z
  · exact hx
theorem pure_l_pool {K : PySem.W.Frag} (vs : List V) (H : Hp) (Q : VK) (E : XK) (h : sp_l_pool K vs H Q E) : t_l_pool K { nx := fun _ H' => Q .non H', rt := Q } (L2.start ["_law_bag_here", "_law_found", "_law_k", "_law_signs_here", "_law_more"] vs) H := by
  obtain ⟨Rs, bag, rfl, S, k⟩ := h
  show t_l_pool K _ [some (V.ref bag), none, none, none, none] H
  walk_at "go"
  refine u_l_signs S fun p1 n1 H1 sg1 S1 => ?_
  walk_at "go"
  refine v_lst S1 (by simp) fun fo H2 S2 => ?_
  walk_at "go"
  refine u_take (S2.perm (.swap _ _ _)) (by decide) fun v H3 l3 u3 S3 => ?_
  walk_at "go"
  refine v_itR (by omega) ?_
  have S4 : M (bagR bag :: pt fo (.lst (rfs [(p1, n1)])) :: fzs [(p1, n1)] :: Rs) H3 := by
    have A1 : M (fzs [] :: bagR bag :: pt fo (.lst (rfs [(p1, n1)])) :: pt p1 (.lst (n1.map V.int)) :: Rs) H3 := M.fzs0 S3
    have A2 : M (pt p1 (.lst (n1.map V.int)) :: fzs [] :: bagR bag :: pt fo (.lst (rfs [(p1, n1)])) :: Rs) H3 := M.sub (.cons 3 rfl (.cons 0 rfl (.cons 0 rfl (.cons 0 rfl (.refl _))))) A1
    exact M.sub (.cons 1 rfl (.cons 1 rfl (.cons 0 rfl (.refl _)))) (fz_add A2)
  have hn : (1 + v).toNat ≤ 5 := by omega
  refine for_W walk_range (fun i σ H' => ∃ (ls : List (Addr × List Int)) (x y z : Option V), σ = [some (V.ref bag), some (V.ref fo), x, y, z] ∧ ls.length = 1 + i ∧ (∀ q ∈ ls, Signs 1 16 q.2) ∧ M (bagR bag :: pt fo (.lst (rfs ls)) :: fzs ls :: Rs) H')
    ⟨[(p1, n1)], none, none, none, rfl, rfl, fun q hq => by cases List.mem_singleton.mp hq; exact sg1, S4⟩ (fun _ _ _ _ _ => trivial) ?_ ?_
  · rintro i x σ H5 H6 hi ⟨ls, x2, y2, z2, rfl, hl, hsg, S5⟩ ⟨rfl, rfl⟩
    walk_at "go"
    rw [rfs_len]
    refine u_take S5 (by omega) fun v6 H6 l6 u6 S6 => ?_
    obtain ⟨q, hq1, hq2, hq3⟩ := atI_rfs (ls := ls) l6 (by omega)
    refine v_ixL (SqL.of (S6.got 1 rfl)) hq3 ?_
    walk_at "go"
    refine v_list S6 (.inl (SqL.of (S6.gotS 2 rfl hq2))) fun sh H7 S7 => ?_
    have sgq := hsg q hq2
    have q1 := sgq.lo
    have q2 := sgq.hi
    walk_at "go"
    refine u_take (M.sub (.cons 1 rfl (.cons 0 rfl (.refl _))) S7) (by decide) fun v8 H8 l8 u8 S8 => ?_
    walk_at "go"
    rw [List.length_map]
    refine u_take S8 (by omega) fun v9 H9 l9 u9 S9 => ?_
    refine v_set S9 1 rfl (ixN_int l9 (by rw [List.length_map]; omega)) fun H10 S10' => ?_
    have S10 : M (bagR bag :: pt sh (.lst ((q.2.set v9.toNat v8).map V.int)) :: pt fo (.lst (rfs ls)) :: fzs ls :: Rs) H10 := by
      rw [← map_set]
      exact S10'
    have sg2 : Signs 1 16 (q.2.set v9.toNat v8) := signs_mem sgq (by omega)
    generalize q.2.set v9.toNat v8 = ns at S10 sg2
    have n1' := sg2.lo
    have n2' := sg2.hi
    walk_at "go"
    refine u_take S10 (by decide) fun v11 H11 l11 u11 S11 => ?_
    walk_at "go"
    refine v_lst S11 (by simp) fun mo H12 S12 => ?_
    walk_at "go"
    refine v_tyL (SqL.of (S12.got 3 rfl)) ?_
    walk_at "go"
    refine g_orT ?_
    walk_at "go"
    refine v_slL S12 (SqL.of (S12.got 2 rfl)) fun s1 H13 S13 => ?_
    have ec : cutV (ns.map V.int) (some 1) none = (ns.drop 1).map V.int := by
      rw [show (some (1 : Int)) = some ((1 : Nat) : Int) from rfl, cut_from, List.map_drop]
    rw [ec] at S13
    have S14 : M (bagR bag :: pt fo (.lst (rfs ls)) :: fzs (ls ++ [(sh, ns)] ++ [(mo, [v11])] ++ [(s1, ns.drop 1)]) :: Rs) H13 := by
      have A1 : M (pt sh (.lst (ns.map V.int)) :: fzs ls :: pt mo (.lst ([v11].map V.int)) :: pt s1 (.lst ((ns.drop 1).map V.int)) :: bagR bag :: pt fo (.lst (rfs ls)) :: Rs) H13 := M.sub (.cons 3 rfl (.cons 4 rfl (.cons 1 rfl (.cons 0 rfl (.cons 0 rfl (.cons 0 rfl (.refl _))))))) S13
      have A2 := fz_add A1
      have A3 := fz_add (A2.perm (.swap _ _ _))
      have A4 := fz_add (A3.perm (.swap _ _ _))
      exact M.sub (.cons 1 rfl (.cons 1 rfl (.cons 0 rfl (.refl _)))) A4
    have g1 : ((sh, ns) : Addr × List Int) ∈ ls ++ [(sh, ns)] ++ [(mo, [v11])] ++ [(s1, ns.drop 1)] := by simp
    have g2 : ((mo, [v11]) : Addr × List Int) ∈ ls ++ [(sh, ns)] ++ [(mo, [v11])] ++ [(s1, ns.drop 1)] := by simp
    have g3 : ((s1, ns.drop 1) : Addr × List Int) ∈ ls ++ [(sh, ns)] ++ [(mo, [v11])] ++ [(s1, ns.drop 1)] := by simp
    have gl : ∀ q ∈ ls, q ∈ ls ++ [(sh, ns)] ++ [(mo, [v11])] ++ [(s1, ns.drop 1)] := fun q hq => by simp [hq]
    generalize ls ++ [(sh, ns)] ++ [(mo, [v11])] ++ [(s1, ns.drop 1)] = gs at S14 g1 g2 g3 gl
    refine ⟨!(ns.drop 1).isEmpty, .inl ⟨_, SqL.of (S14.gotS 2 rfl g3), by cases ns.drop 1 <;> rfl⟩, v_orT rfl fun z hz => ?_⟩
    obtain ⟨c2, hc2, hz2, sc2⟩ : ∃ c2 : Addr × List Int, c2 ∈ gs ∧ z = .ref c2.1 ∧ Signs 1 16 c2.2 := by
      rcases hz with ⟨h1, rfl⟩ | ⟨h1, rfl⟩
      · refine ⟨_, g3, rfl, ?_, ?_, fun n hn => sg2.sg n (List.mem_of_mem_drop hn)⟩
        · cases hd : ns.drop 1 with
          | nil => rw [hd] at h1; cases h1
          | cons _ _ => simp
        · show (ns.drop 1).length ≤ 16
          rw [List.length_drop]
          omega
      · exact ⟨_, g2, rfl, by simp, by simp, fun n hn => by cases List.mem_singleton.mp hn; omega⟩
    subst hz2
    walk_at "go"
    refine v_catS S14 (SqL.of (S14.gotS 2 rfl g1)) (SqL.of (S14.gotS 2 rfl g2)) (by simp; omega) fun ct H15 S15 => ?_
    walk_at "go"
    refine v_slL S15 (SqL.of (S15.got 0 rfl)) fun s3 H16 S16 => ?_
    have ec3 : cutV (ns.map V.int ++ [v11].map V.int) (some (-16)) none = ((ns ++ [v11]).drop ((ns ++ [v11]).length - 16)).map V.int := by
      rw [cut_last, ← List.map_append, List.length_map, List.map_drop]
    have S16' : M (pt s3 (.lst (cutV (ns.map V.int ++ [v11].map V.int) (some (-16)) none)) :: pt ct (.lst (ns.map V.int ++ [v11].map V.int)) :: bagR bag :: pt fo (.lst (rfs ls)) :: fzs gs :: Rs) H16 := S16
    rw [ec3] at S16'
    have sc3 : Signs 1 16 ((ns ++ [v11]).drop ((ns ++ [v11]).length - 16)) := by
      refine ⟨?_, ?_, fun n hn => ?_⟩
      · rw [List.length_drop, List.length_append]
        simp
        omega
      · rw [List.length_drop]
        omega
      · rcases List.mem_append.mp (List.mem_of_mem_drop hn) with h | h
        · exact sg2.sg n h
        · cases List.mem_singleton.mp h
          omega
    generalize (ns ++ [v11]).drop ((ns ++ [v11]).length - 16) = n3 at S16' sc3
    walk_at "go"
    refine u_l_signs (M.sub (.cons 2 rfl (.refl _)) S16') fun s4 n4 H17 sc4 S17 => ?_
    walk_at "go"
    have S18 : M (bagR bag :: pt fo (.lst (rfs ls)) :: fzs (gs ++ [(s3, n3)] ++ [(s4, n4)]) :: Rs) H17 := by
      have A1 : M (pt s3 (.lst (n3.map V.int)) :: fzs gs :: pt s4 (.lst (n4.map V.int)) :: bagR bag :: pt fo (.lst (rfs ls)) :: Rs) H17 := M.sub (.cons 2 rfl (.cons 4 rfl (.cons 1 rfl (.cons 0 rfl (.cons 1 rfl (.tl (.refl _))))))) S17
      have A2 := fz_add A1
      have A3 := fz_add (A2.perm (.swap _ _ _))
      exact M.sub (.cons 1 rfl (.cons 1 rfl (.cons 0 rfl (.refl _)))) A3
    have gl2 : ∀ q ∈ gs, q ∈ gs ++ [(s3, n3)] ++ [(s4, n4)] := fun q hq => by simp [hq]
    have k3 : ((s3, n3) : Addr × List Int) ∈ gs ++ [(s3, n3)] ++ [(s4, n4)] := by simp
    have k4 : ((s4, n4) : Addr × List Int) ∈ gs ++ [(s3, n3)] ++ [(s4, n4)] := by simp
    generalize gs ++ [(s3, n3)] ++ [(s4, n4)] = ks at S18 gl2 k3 k4
    refine v_lst S18 (by simp) fun ca H19 S19 => ?_
    walk_at "go"
    refine u_take (M.sub (.cons 1 rfl (.cons 0 rfl (.refl _))) S19) (by decide) fun v20 H20 l20 u20 S20 => ?_
    obtain ⟨ch, ch1, ch2, ch3⟩ := atI_rfs (ls := [(sh, ns), c2, (s3, n3), (s4, n4)]) l20 u20
    refine v_ixL (SqL.of (S20.got 1 rfl)) ch3 ?_
    have hch : ch ∈ ks ∧ Signs 1 16 ch.2 := by
      simp only [List.mem_cons, List.not_mem_nil, or_false] at ch2
      rcases ch2 with rfl | rfl | rfl | rfl
      · exact ⟨gl2 _ g1, sg2⟩
      · exact ⟨gl2 _ hc2, sc2⟩
      · exact ⟨k3, sc3⟩
      · exact ⟨k4, sc4⟩
    walk_at "go"
    refine v_app S20 2 rfl (by rw [rfs_len]; omega) fun H21 S21 => ?_
    walk_at "go"
    refine ⟨ls ++ [ch], _, _, _, rfl, by simp; omega, fun q hq => ?_, ?_⟩
    · rcases List.mem_append.mp hq with h | h
      · exact hsg q h
      · cases List.mem_singleton.mp h
        exact hch.2
    · have A1 : M (fzs ks :: bagR bag :: pt fo (.lst (rfs ls ++ [.ref ch.1])) :: Rs) H21 := M.sub (.cons 3 rfl (.cons 0 rfl (.cons 1 rfl (.tl (.refl _))))) S21
      have A2 := M.fzsS (ls := ls ++ [ch]) (fun q hq => by
        rcases List.mem_append.mp hq with h | h
        · exact gl2 _ (gl q h)
        · cases List.mem_singleton.mp h
          exact hch.1) A1
      obtain ⟨ch, cn⟩ := ch
      rw [rfs_snoc]
      exact M.sub (.cons 1 rfl (.cons 1 rfl (.cons 0 rfl (.refl _)))) A2
  · rintro σ H5 ⟨ls, x2, y2, z2, rfl, hl, hsg, S5⟩
    walk_at "go"
    have S6 : M (bagR bag :: fz fo (.lst (rfs ls)) :: fzs ls :: Rs) H5 := (M.fix (S5.perm (.swap _ _ _))).perm (.swap _ _ _)
    exact k fo ls H5 ⟨by omega, by omega, hsg⟩ (by omega) S6
theorem ThE.fzs {K : PySem.W.Frag} {Rs : List Res} {ls : List (Addr × List Int)} {q : Addr × List Int} (i : Nat) (e : Rs[i]? = some (fzs ls)) (hq : q ∈ ls) : ThE K Rs (.ref q.1) (.lst (q.2.map V.int)) := ⟨fun H S => .lst (SqL.of (S.gotS i e hq)), fun H _ => items_ints q.2⟩
theorem v_neI2 {K : PySem.W.Frag} {H : Hp} {Q : VK} {a b : Addr} {ns ms : List Int} (h1 : SqL K H a (ns.map V.int)) (h2 : SqL K H b (ms.map V.int)) (k : Q (.bl (!decide (ns = ms))) H) : uNe K (.ref a) (.ref b) H Q := by
  refine v_neD (dp_ints h1) (dp_ints h2) (shaped_ints _) (shaped_ints _) ?_
  rw [eqv_ints]
  exact k
theorem model_new {m : Addr} {room : Int} {Rs : List Res} {H : Hp} (h1 : 1 ≤ room) (h2 : room ≤ 400) (S : M (pt m (.dK []) :: Rs) H) : M (modelR m room [] :: Rs) H := by
  obtain ⟨F, L, ⟨l1, l2, rfl, a, s⟩, mm⟩ := S
  have S2 : M (opM m [] Rs) H := ⟨F, _, ⟨l1, l2, rfl, a, [], l2, rfl, rfl, [], l2, rfl, ⟨rfl, fun _ h => nomatch h⟩, s⟩, mm⟩
  exact model_close (es := []) rfl ⟨h1, h2, by show ((0 : Nat) : Int) ≤ room; omega, List.nodup_nil, (fun _ h => nomatch h), (fun _ h => nomatch h), (fun _ h => nomatch h)⟩ S2
theorem Bnd.nil : Bnd 0 [] := ⟨Nat.le_refl _, fun _ h => nomatch h⟩
/-- what is told of both at the end -/
theorem both_state {K : PySem.W.Frag} {Rs : List Res} {H : Hp} {a m : Addr} {room : Int} {st : Shst} {n : Nat} {Q : VK} {R : VK} (S : M (shelfR K a room st :: modelR m room st :: Rs) H) (hb : Bnd n st) (hn : n < 64)
    (k : ∀ x y H', M (shelfR K a room st :: modelR m room st :: Rs) H' → Dp K H' x (statD room st) → Dp K H' y (statD room st) → Shw (statD room st) → True) : True := trivial
theorem go_eq {st : Shst} {s : Int} {room : Int} {x : Int × Option (List Int)} (ok : ShOk room st) (h : getS st s = some x) : goF st (.int s) = if x.1 - 1 > 0 then .ok (.bl false, setS st s (x.1 - 1, x.2)) else .ok (.bl true, delS st s) := by
  have hb := ok.sl _ (getS_mem h)
  have e : sealT (.int s) = some s := by
    unfold sealT
    dsimp only at hb ⊢
    rw [hb]
    rfl
  unfold goF keptF
  rw [e]
  dsimp only
  rw [h]
def cntS (st : Shst) (s : Int) : Nat := ((getS st s).map fun x => x.1.toNat).getD 0
theorem getS_set {st : Shst} {s : Int} {x y : Int × Option (List Int)} (h : getS st s = some x) : getS (setS st s y) s = some y := by
  unfold setS
  rw [h]
  dsimp only [Option.isSome]
  rw [if_pos rfl]
  induction st with
  | nil => cases h
  | cons e r ih =>
    rw [getS_cons] at h
    rw [List.map_cons, getS_cons]
    by_cases he : e.1 = s
    · rw [if_pos he]
      exact if_pos rfl
    · rw [if_neg he] at h ⊢
      rw [if_neg he]
      exact ih h
theorem keys_set {st : Shst} {s : Int} {x y : Int × Option (List Int)} (h : getS st s = some x) : keysS (setS st s y) = keysS st := by
  unfold setS
  rw [h]
  dsimp only [Option.isSome]
  rw [if_pos rfl]
  unfold keysS
  rw [List.map_map]
  refine List.map_congr_left fun e _ => ?_
  dsimp only [Function.comp]
  by_cases he : e.1 = s
  · rw [if_pos he, he]
  · rw [if_neg he]
theorem keys_del {st : Shst} {s t : Int} (h : t ∈ keysS (delS st s)) : t ∈ keysS st ∧ t ≠ s := by
  unfold keysS delS at h
  obtain ⟨e, he, rfl⟩ := List.mem_map.mp h
  obtain ⟨h1, h2⟩ := List.mem_filter.mp he
  exact ⟨List.mem_map.mpr ⟨e, h1, rfl⟩, by simpa using h2⟩
theorem v_andI {c : Bool} {tb : TE} {σ : L2.St} {H : Hp} {Q' : VK} {φ : Hp → Prop} (h0 : φ H) (k : ∀ b H', φ H' → Q' (.bl b) H') (hb : ∀ Q'' : VK, (∀ b H', φ H' → Q'' (.bl b) H') → tb σ H Q'') : if c = true then tb σ H Q' else Q' (.bl false) H := by
  cases c
  · exact k false H h0
  · exact hb _ k
def Wk22 (K : PySem.W.Frag) (σ0 : L2.St) (a m p : Addr) (rm : Int) (ks : List Int) (i : Nat) (s : Int) (n : Nat) (σ : L2.St) (H : Hp) : Prop := ∃ st : Shst, σ = σ0 ∧ (∀ t ∈ keysS st, t ∈ ks.drop i) ∧ n = cntS st s ∧ M (shelfR K a rm st :: modelR m rm st :: pt p (.lst (ks.map V.int)) :: []) H
theorem shw_bl (b : Bool) : Shw (.bool b) := by cases b <;> exact ⟨by decide, by decide, by decide, by decide⟩
/-! ### a body that is drawn -/
def sp_l_body (K : PySem.W.Frag) : Sp := fun vs H Q _ => ∃ (Rs : List Res) (bag pl : Addr) (ls : List (Addr × List Int)) (q : Addr × List Int), vs = [.ref bag, .ref pl, .ref q.1] ∧ Pool ls ∧ q ∈ ls ∧ M (bagR bag :: fz pl (.lst (rfs ls)) :: fzs ls :: Rs) H ∧
  ∀ p ns H', Signs 0 16 ns → M (pt p (.lst (ns.map V.int)) :: bagR bag :: fz pl (.lst (rfs ls)) :: fzs ls :: Rs) H' → Q (.ref p) H'
theorem len_l_body {K : PySem.W.Frag} (vs : List V) (H : Hp) (Q : VK) (E : XK) (h : sp_l_body K vs H Q E) : vs.length = 3 := by
  obtain ⟨Rs, bag, pl, ls, q, rfl, _⟩ := h
  rfl
theorem cut_m1 (xs : List V) : cutV xs none (some (-1)) = xs.take (xs.length - 1) := by
  unfold cutV
  rw [HT.sIx_none]
  have e : HT.sIx xs.length xs.length (some (-1)) = xs.length - 1 := by
    show (if (-1 : Int) < 0 then ((-1 : Int) + (xs.length : Int)).toNat else min (-1 : Int).toNat xs.length) = _
    rw [if_pos (by decide)]
    omega
  rw [e]
  simp
theorem signsT_some {ns : List Int} (sg : Signs 1 16 ns) : signsT 1 16 (.lst (ns.map V.int)) = some ns := by
  have h1 := sg.lo
  have h2 := sg.hi
  unfold signsT
  dsimp only
  rw [if_pos ⟨by rw [List.length_map]; omega, by rw [List.length_map]; omega⟩, sgnsV_ints sg.sg]
abbrev t_l_body_3 (K : PySem.W.Frag) : TS := (tSeq (tAsg (tSl (uSl K) (tOp (uAdd K) (tVar 2) (tLst (tCons (tCall (sp_l_take K) [] E0 (tCons (tVar 0) (tCons (tC (.int 1000)) tNil))) tNil))) tNoPart (tPart (tC (.int 16)))) (gName 4))
  (tRet (tOp (uIx K) (tLst (tCons (tLst tNil) (tCons (tCB (rListOf K) (tCons (tVar 2) tNil)) (tCons (tVar 3) (tCons (tVar 4) (tCons (tSl (uSl K) (tVar 2) tNoPart (tPart (tUn (rU fun i => .int (-i)) (tC (.int 1))))) (tCons (tCB (rListOf K) (tCons (tOp (uIx K) (tVar 1) (tCall (sp_l_take K) [] E0 (tCons (tVar 0) (tCons (tCB (uLen K) (tCons (tVar 1) tNil)) tNil)))) tNil)) tNil))))))) (tCall (sp_l_take K) [] E0 (tCons (tVar 0) (tCons (tC (.int 6)) tNil))))))
abbrev t_l_body_2 (K : PySem.W.Frag) : TS := (tSeq (tAsg (tCall (sp_l_take K) [] E0 (tCons (tVar 0) (tCons (tC (.int 1000)) tNil))) (gSub (tVar 3) (tCall (sp_l_take K) [] E0 (tCons (tVar 0) (tCons (tCB (uLen K) (tCons (tVar 3) tNil)) tNil))) uSet))
  (t_l_body_3 K))
abbrev t_l_body_1 (K : PySem.W.Frag) : TS := (tSeq (tAsg (tCB (rListOf K) (tCons (tVar 2) tNil)) (gName 3))
  (t_l_body_2 K))
abbrev t_l_body (K : PySem.W.Frag) : TS := (t_l_body_1 K)
theorem pure_l_body {K : PySem.W.Frag} (vs : List V) (H : Hp) (Q : VK) (E : XK) (h : sp_l_body K vs H Q E) : t_l_body K { nx := fun _ H' => Q .non H', rt := Q } (L2.start ["_law_bag_here", "_law_pool_here", "_law_signs_here", "_law_other", "_law_more"] vs) H := by
  obtain ⟨Rs, bag, pl, ls, ⟨q, ns⟩, rfl, hp, hq, S, k⟩ := h
  show t_l_body K _ [some (V.ref bag), some (V.ref pl), some (V.ref q), none, none] H
  have q1 := hp.lo
  have q2 := hp.hi
  have sg := hp.sg _ hq
  have n1 := sg.lo
  have n2 := sg.hi
  dsimp only at n1 n2
  walk_at "go"
  refine v_list S (.inl (SqL.of (S.gotS (q := (q, ns)) 2 rfl hq))) fun ot H1 S1 => ?_
  walk_at "go"
  have S1' : M (bagR bag :: pt ot (.lst (ns.map V.int)) :: fz pl (.lst (rfs ls)) :: fzs ls :: Rs) H1 := M.sub (.cons 1 rfl (.refl _)) S1
  refine u_take S1' (by decide) fun v2 H2 l2 u2 S2 => ?_
  walk_at "go"
  rw [List.length_map]
  refine u_take S2 (by omega) fun v3 H3 l3 u3 S3 => ?_
  walk_at "go"
  refine v_set S3 1 rfl (j := v3.toNat) (ixN_int (by omega) (by rw [List.length_map]; omega)) fun H4 S4 => ?_
  have S5 : M (bagR bag :: pt ot (.lst ((ns.set v3.toNat v2).map V.int)) :: fz pl (.lst (rfs ls)) :: fzs ls :: Rs) H4 := by
    rw [List.map_set]
    exact S4
  have so : Signs 0 16 (ns.set v3.toNat v2) := by
    have := signs_mem (j := v3.toNat) sg (x := v2) (by omega)
    exact ⟨Nat.zero_le _, this.hi, this.sg⟩
  walk_at "go"
  refine u_take S5 (by decide) fun v6 H6 l6 u6 S6 => ?_
  walk_at "go"
  refine v_lst S6 (by simp) fun o6 H7 S7 => ?_
  walk_at "go"
  refine v_catS S7 (SqL.of (S7.gotS (q := (q, ns)) 4 rfl hq)) (SqL.of (S7.got 0 rfl)) (by simp; omega) fun ct H8 S8 => ?_
  walk_at "go"
  refine v_slL S8 (SqL.of (S8.got 0 rfl)) fun mo H9 S9 => ?_
  have e9 : cutV (ns.map V.int ++ [V.int v6]) none (some 16) = ((ns ++ [v6]).take 16).map V.int := by
    rw [show cutV (ns.map V.int ++ [V.int v6]) none (some 16) = (ns.map V.int ++ [V.int v6]).take 16 from cut_to _ 16, List.map_take, List.map_append]
    rfl
  have S10 : M (bagR bag :: pt mo (.lst (((ns ++ [v6]).take 16).map V.int)) :: pt ot (.lst ((ns.set v3.toNat v2).map V.int)) :: fz pl (.lst (rfs ls)) :: fzs ls :: Rs) H9 := by
    rw [← e9]
    exact M.sub (.cons 3 rfl (.cons 0 rfl (.tl (.tl (.refl _))))) S9
  have sm : Signs 0 16 ((ns ++ [v6]).take 16) := by
    refine ⟨Nat.zero_le _, by rw [List.length_take]; omega, fun n hn => ?_⟩
    rcases List.mem_append.mp (List.mem_of_mem_take hn) with z | z
    · exact sg.sg n z
    · cases List.mem_singleton.mp z
      omega
  generalize (ns ++ [v6]).take 16 = ms at S10 sm
  generalize ns.set v3.toNat v2 = os at S10 so
  clear S9 S8 S7 S6 S5 S4 S3 S2 S1'
  walk_at "go"
  refine v_lst S10 (by simp) fun em H11 S11 => ?_
  walk_at "go"
  refine v_list S11 (.inl (SqL.of (S11.gotS (q := (q, ns)) 5 rfl hq))) fun cp H12 S12 => ?_
  walk_at "go"
  refine v_slL S12 (SqL.of (S12.gotS (q := (q, ns)) 6 rfl hq)) fun sh H13 S13 => ?_
  have e13 : cutV (ns.map V.int) none (some (-1)) = (ns.take (ns.length - 1)).map V.int := by
    rw [cut_m1, List.length_map, List.map_take]
  have S14 : M (bagR bag :: pt sh (.lst ((ns.take (ns.length - 1)).map V.int)) :: pt cp (.lst (ns.map V.int)) :: pt em (.lst []) :: pt mo (.lst (ms.map V.int)) :: pt ot (.lst (os.map V.int)) :: fz pl (.lst (rfs ls)) :: fzs ls :: Rs) H13 := by
    rw [← e13]
    exact M.sub (.cons 3 rfl (.refl _)) S13
  walk_at "go"
  rw [rfs_len]
  refine u_take S14 (by omega) fun v15 H15 l15 u15 S15 => ?_
  obtain ⟨r, hr1, hr2, hr3⟩ := atI_rfs (ls := ls) l15 (by omega)
  refine v_ixL (SqL.of (S15.gotF 6 rfl)) hr3 ?_
  have sr := hp.sg r hr2
  walk_at "go"
  refine v_list S15 (.inl (SqL.of (S15.gotS 7 rfl hr2))) fun cr H16 S16 => ?_
  walk_at "go"
  refine v_lst S16 (by simp) fun tr H17 S17 => ?_
  walk_at "go"
  have S18 : M (bagR bag :: pt tr (.lst [.ref em, .ref cp, .ref ot, .ref mo, .ref sh, .ref cr]) :: pt cr (.lst (r.2.map V.int)) :: pt sh (.lst ((ns.take (ns.length - 1)).map V.int)) :: pt cp (.lst (ns.map V.int)) :: pt em (.lst (([] : List Int).map V.int)) :: pt mo (.lst (ms.map V.int)) :: pt ot (.lst (os.map V.int)) :: fz pl (.lst (rfs ls)) :: fzs ls :: Rs) H17 := M.sub (.cons 2 rfl (.refl _)) S17
  refine u_take S18 (by decide) fun j H19 l19 u19 S19 => ?_
  have hj : j = 0 ∨ j = 1 ∨ j = 2 ∨ j = 3 ∨ j = 4 ∨ j = 5 := by omega
  have st : Signs 0 16 (ns.take (ns.length - 1)) := ⟨Nat.zero_le _, by rw [List.length_take]; omega, fun n hn => sg.sg n (List.mem_of_mem_take hn)⟩
  rcases hj with rfl | rfl | rfl | rfl | rfl | rfl
  · refine v_ixL (SqL.of (S19.got 1 rfl)) (v := .ref em) rfl ?_
    exact k em [] H19 ⟨Nat.zero_le _, by simp, fun n hn => nomatch hn⟩ (M.sub (.cons 5 rfl (.cons 0 rfl (.tl (.tl (.tl (.tl (.tl (.tl (.refl _)))))))))  S19)
  · refine v_ixL (SqL.of (S19.got 1 rfl)) (v := .ref cp) rfl ?_
    exact k cp ns H19 ⟨Nat.zero_le _, n2, sg.sg⟩ (M.sub (.cons 4 rfl (.cons 0 rfl (.tl (.tl (.tl (.tl (.tl (.tl (.refl _)))))))))  S19)
  · refine v_ixL (SqL.of (S19.got 1 rfl)) (v := .ref ot) rfl ?_
    exact k ot os H19 so (M.sub (.cons 7 rfl (.cons 0 rfl (.tl (.tl (.tl (.tl (.tl (.tl (.refl _)))))))))  S19)
  · refine v_ixL (SqL.of (S19.got 1 rfl)) (v := .ref mo) rfl ?_
    exact k mo ms H19 sm (M.sub (.cons 6 rfl (.cons 0 rfl (.tl (.tl (.tl (.tl (.tl (.tl (.refl _)))))))))  S19)
  · refine v_ixL (SqL.of (S19.got 1 rfl)) (v := .ref sh) rfl ?_
    exact k sh _ H19 st (M.sub (.cons 3 rfl (.cons 0 rfl (.tl (.tl (.tl (.tl (.tl (.tl (.refl _)))))))))  S19)
  · refine v_ixL (SqL.of (S19.got 1 rfl)) (v := .ref cr) rfl ?_
    exact k cr r.2 H19 ⟨Nat.zero_le _, sr.hi, sr.sg⟩ (M.sub (.cons 2 rfl (.cons 0 rfl (.tl (.tl (.tl (.tl (.tl (.tl (.refl _)))))))))  S19)
theorem u_bag {K : PySem.W.Frag} {Rs : List Res} {H : Hp} {a : Addr} {ns : List Int} {Q : VK} {E : XK} (S : M Rs H) (h : Ent Rs (fun H => SqL K H a (ns.map V.int))) (hl : ns.length ≤ 63) (k : ∀ bag H', M (bagR bag :: Rs) H' → Q (.ref bag) H') :
    sp_l_bag K ([.ref a] ++ []) H Q E := ⟨Rs, a, ns, rfl, S, h, hl, k⟩
def sp_law (K : PySem.W.Frag) : Sp := fun vs H Q _ => ∃ (a : Addr) (ns : List Int), vs = [.ref a] ∧ SqL K H a (ns.map V.int) ∧ ns.length ≤ 63 ∧ ∀ H', Q (.bl true) H'
theorem len_law {K : PySem.W.Frag} (vs : List V) (H : Hp) (Q : VK) (E : XK) (h : sp_law K vs H Q E) : vs.length = 1 := by
  obtain ⟨x, y, rfl, _⟩ := h
  rfl
theorem law_start (K : PySem.W.Frag) (H : Hp) (a : Addr) (ns : List Int) (hl : ns.length ≤ 63) (hS : SqL K H a (ns.map V.int)) : sp_law K [.ref a] H (fun v _ => v = .bl true) fun _ _ _ => False := ⟨a, ns, rfl, hS, hl, fun _ => rfl⟩
abbrev t_law_6 (K : PySem.W.Frag) : TS := (tSeq (tDrop (tCall (sp_l_due K) [] E0 (tCons (tVar 7) (tCons (tC (.int 400)) (tCons (tC (.int 0)) (tCons (tC (.int 0)) (tCons (tVar 4) tNil)))))))
  (tDrop (tMethW W0 (He.ga K "Shelf") "lay" (sp_Shelf_lay K) [] (tVar 6) (tCons (tCB (rListOf K) (tCons (tVar 4) tNil)) tNil))))
abbrev t_law_20 (K : PySem.W.Frag) : TS := (tIfS (tAnd (tTest (tOp (uEq K) (tCall (sp_l_take K) [] E0 (tCons (tVar 1) (tCons (tVar 2) tNil))) (tC (.int 0)))) (tNot (tB (tCall (sp_l_alike K) [] E0 (tCons (tCall (sp_l_state K) [] E0 (tCons (tVar 6) tNil)) (tCons (tCall (sp_l_state_due K) [] E0 (tCons (tVar 7) (tCons (tC (.int 400)) tNil))) tNil)))))) (tRet (tC (.bl false))) tNext)
abbrev t_law_19 (K : PySem.W.Frag) : TS := (tSeq (tAsg (tC (.int 3)) (gSub (tVar 9) (tC (.int 0)) uSet))
  (t_law_20 K))
abbrev t_law_18 (K : PySem.W.Frag) : TS := (tSeq (tDrop (tBM K "list" rAppend (tVar 9) (tCons (tC (.int 5)) tNil)))
  (t_law_19 K))
abbrev t_law_16 (K : PySem.W.Frag) : TS := (tSeq (tIfS (tOr (tNot (tB (tCall (sp_l_alike K) [] E0 (tCons (tCall (sp_l_said K) [] E0 (tCons (tVar 6) (tCons (tVar 8) (tCons (tCall (sp_l_sum K) [] E0 (tCons (tVar 4) tNil)) (tCons (tVar 9) tNil))))) (tCons (tVar 11) tNil))))) (tTest (tOp (uNe K) (tVar 9) (tVar 10)))) (tRet (tC (.bl false))) tNext)
  (t_law_18 K))
abbrev t_law_15 (K : PySem.W.Frag) : TS := (tSeq (tAsg (tCall (sp_l_due K) [] E0 (tCons (tVar 7) (tCons (tC (.int 400)) (tCons (tVar 8) (tCons (tCall (sp_l_sum K) [] E0 (tCons (tVar 4) tNil)) (tCons (tVar 10) tNil)))))) (gName 11))
  (t_law_16 K))
abbrev t_law_14 (K : PySem.W.Frag) : TS := (tSeq (tAsg (tCB (rListOf K) (tCons (tVar 9) tNil)) (gName 10))
  (t_law_15 K))
abbrev t_law_12 (K : PySem.W.Frag) : TS := (tSeq (tIfS (tOr (tTest (tOp (uEq K) (tVar 8) (tC (.int 3)))) (tAnd (tTest (tOp (uEq K) (tVar 8) (tC (.int 5)))) (tTest (tOp (uEq K) (tCall (sp_l_take K) [] E0 (tCons (tVar 1) (tCons (tC (.int 3)) tNil))) (tC (.int 0)))))) (tAsg (tOrT K (tCall (sp_l_body K) [] E0 (tCons (tVar 1) (tCons (tVar 3) (tCons (tVar 4) tNil)))) (tSl (uSl K) (tVar 4) tNoPart (tPart (tOp uDiv (tVar 8) (tC (.int 5)))))) (gName 9)) tNext)
  (t_law_14 K))
abbrev t_law_11 (K : PySem.W.Frag) : TS := (tSeq (tAsg (tCB (rListOf K) (tCons (tVar 4) tNil)) (gName 9))
  (t_law_12 K))
abbrev t_law_10 (K : PySem.W.Frag) : TS := (tSeq (tAsg (tOp (uIx K) (tLst (tCons (tC (.int 3)) (tCons (tC (.int 3)) (tCons (tC (.int 3)) (tCons (tC (.int 4)) (tCons (tC (.int 5)) (tCons (tC (.int 5)) (tCons (tC (.int 0)) (tCons (tC (.int 1)) (tCons (tC (.int 2)) tNil)))))))))) (tCall (sp_l_take K) [] E0 (tCons (tVar 1) (tCons (tC (.int 9)) tNil)))) (gName 8))
  (t_law_11 K))
abbrev t_law_9 (K : PySem.W.Frag) : TS := (tSeq (tAsg (tOp (uIx K) (tVar 3) (tCall (sp_l_take K) [] E0 (tCons (tVar 1) (tCons (tCB (uLen K) (tCons (tVar 3) tNil)) tNil)))) (gName 4))
  (t_law_10 K))
abbrev t_law_8 (K : PySem.W.Frag) : TS := (tSeq (tFor (iRng1 (tCons (tCall (sp_l_take K) [] E0 (tCons (tVar 1) (tCons (tC (.int 25)) tNil))) tNil)) (gName 5) (t_law_9 K))
  (tRet (tCall (sp_l_alike K) [] E0 (tCons (tCall (sp_l_state K) [] E0 (tCons (tVar 6) tNil)) (tCons (tCall (sp_l_state_due K) [] E0 (tCons (tVar 7) (tCons (tC (.int 400)) tNil))) tNil)))))
abbrev t_law_5 (K : PySem.W.Frag) : TS := (tSeq (tFor (iList K (tOp (uAdd K) (tSl (uSl K) (tVar 3) (tPart (tC (.int 1))) tNoPart) (tOp uMul (tSl (uSl K) (tVar 3) tNoPart (tPart (tC (.int 1)))) (tCall (sp_l_take K) [] E0 (tCons (tVar 1) (tCons (tC (.int 2)) tNil)))))) (gName 4) (t_law_6 K))
  (t_law_8 K))
abbrev t_law_4 (K : PySem.W.Frag) : TS := (tSeq (tPar 6 7 (tCons (tMakeW W0 (He.ga K "Shelf") (sp_Shelf___init__ K) [] (tCons (tC (.int 400)) tNil)) (tCons tDNewK tNil)))
  (t_law_5 K))
abbrev t_law_3 (K : PySem.W.Frag) : TS := (tSeq (tAsg (tCall (sp_l_pool K) [] E0 (tCons (tVar 1) tNil)) (gName 3))
  (t_law_4 K))
abbrev t_law_2 (K : PySem.W.Frag) : TS := (tSeq (tAsg (tOp (uAdd K) (tC (.int 1)) (tCall (sp_l_take K) [] E0 (tCons (tVar 1) (tCons (tC (.int 4)) tNil)))) (gName 2))
  (t_law_3 K))
abbrev t_law_1 (K : PySem.W.Frag) : TS := (tSeq (tAsg (tCall (sp_l_bag K) [] E0 (tCons (tVar 0) tNil)) (gName 1))
  (t_law_2 K))
abbrev t_law (K : PySem.W.Frag) : TS := (t_law_1 K)
theorem lay_eq {st : Shst} {ns : List Int} (ok : ShOk 400 st) (hl : st.length < 400) (sg : Signs 1 16 ns) : ∃ st2, layF 400 st (.lst (ns.map V.int)) = .ok (.int (sealN ns), st2) := by
  have e : signsT 1 16 (.lst (ns.map V.int)) = some ns := signsT_some sg
  unfold layF
  rw [e]
  dsimp only
  cases hg : getS st (sealN ns) with
  | none =>
    dsimp only
    rw [if_neg (by omega)]
    exact ⟨_, rfl⟩
  | some x => exact ⟨_, rfl⟩
theorem tail23 {K : PySem.W.Frag} {Nx : L2.St → Hp → Prop} {Rt : VK} {Bk Ct : L2.St → Hp → Prop} {H : Hp} {sc bag pl a m hd : Addr} {ls : List (Addr × List Int)} {q : Addr × List Int} {ns : List Int} {often way : Int} {n : Nat} {st : Shst} {y x10 x11 : Option V}
    (hp : Pool ls) (hq : q ∈ ls) (sn : Signs 0 16 ns) (w1 : 0 ≤ way) (w2 : way ≤ 5) (hb : Bnd n st) (hn : n < 60) (o1 : 0 ≤ often) (o2 : often < 4)
    (S : M (pt hd (.lst (ns.map V.int)) :: bagR bag :: shelfR K a 400 st :: modelR m 400 st :: fz pl (.lst (rfs ls)) :: fzs ls :: []) H)
    (k : ∀ (st' : Shst) (z9 z10 z11 : Option V) H', Bnd (n + 1) st' → M (bagR bag :: shelfR K a 400 st' :: modelR m 400 st' :: fz pl (.lst (rfs ls)) :: fzs ls :: []) H' →
      Nx [some (V.ref sc), some (V.ref bag), some (V.int (1 + often)), some (V.ref pl), some (V.ref q.1), y, some (V.ref a), some (V.ref m), some (V.int way), z9, z10, z11] H') :
    t_law_14 K ⟨Nx, Rt, Bk, Ct⟩ [some (V.ref sc), some (V.ref bag), some (V.int (1 + often)), some (V.ref pl), some (V.ref q.1), y, some (V.ref a), some (V.ref m), some (V.int way), some (V.ref hd), x10, x11] H := by
  have sg := hp.sg q hq
  have n1 := sg.lo
  have n2 := sg.hi
  have n3 := sn.hi
  walk_at "go"
  refine v_list S (.inl (SqL.of (S.got 0 rfl))) fun aw H17 S17 => ?_
  walk_at "go"
  refine u_l_sum (SqL.of (S17.gotS 6 rfl hq)) ⟨Nat.zero_le _, sg.hi, sg.sg⟩ ?_
  walk_at "go"
  have S18 : M (modelR m 400 st :: pt aw (.lst (ns.map V.int)) :: pt hd (.lst (ns.map V.int)) :: bagR bag :: shelfR K a 400 st :: fz pl (.lst (rfs ls)) :: fzs ls :: []) H17 := M.sub (.cons 4 rfl (.refl _)) S17
  refine ⟨_, m, 400, way, st, .int (sealN q.2), .ref aw, .int (sealN q.2), .lst (ns.map V.int), rfl, by omega, by omega, fun z => ⟨_, rfl⟩, S18, ThE.int K _ _, ThE.lst 0 rfl, fun x19 H19 S19 => ?_⟩
  have ok := shelf_ok S19 5 rfl
  have hsw : Shw (deedF 400 st way (.int (sealN q.2)) (.lst (ns.map V.int))).dat := oc_shw ok hb (by omega)
  have hb2 : Bnd (n + 1) ((deedF 400 st way (.int (sealN q.2)) (.lst (ns.map V.int))).st st) := hb.deed
  generalize hd0 : deedF 400 st way (.int (sealN q.2)) (.lst (ns.map V.int)) = oc at S19 hsw hb2
  walk_at "go"
  refine u_l_sum (SqL.of (S19.gotS 7 rfl hq)) ⟨Nat.zero_le _, sg.hi, sg.sg⟩ ?_
  walk_at "go"
  have S20 : M (shelfR K a 400 st :: dt K x19 oc.dat :: modelR m 400 (oc.st st) :: pt aw (.lst (ns.map V.int)) :: pt hd (.lst (ns.map V.int)) :: bagR bag :: fz pl (.lst (rfs ls)) :: fzs ls :: []) H19 := M.sub (.cons 5 rfl (.refl _)) S19
  refine ⟨_, a, 400, way, st, .int (sealN q.2), .ref hd, .int (sealN q.2), .lst (ns.map V.int), rfl, by omega, by omega, S20, ThE.int K _ _, ThE.lst 3 rfl, fun x21 H21 S21 => ?_⟩
  rw [hd0] at S21
  walk_at "go"
  refine u_alike (S21.gotD 0 rfl) (S21.gotD 2 rfl) hsw ?_
  walk_at "go"
  refine v_neI2 (SqL.of (S21.got 5 rfl)) (SqL.of (S21.got 4 rfl)) ?_
  rw [decide_eq_true rfl]
  walk_at "go"
  refine v_tyL (SqL.of (S21.got 5 rfl)) ?_
  walk_at "go"
  refine v_app S21 5 rfl (by rw [List.length_map]; omega) fun H22 S22 => ?_
  walk_at "go"
  refine v_set S22 5 rfl (j := 0) (ixN_int (by decide) (by rw [List.length_append]; simp)) fun H23 S23 => ?_
  have S24 : M (bagR bag :: shelfR K a 400 (oc.st st) :: modelR m 400 (oc.st st) :: fz pl (.lst (rfs ls)) :: fzs ls :: []) H23 := M.sub (.cons 6 rfl (.cons 1 rfl (.cons 2 rfl (.cons 4 rfl (.cons 4 rfl (.nil _)))))) S23
  walk_at "go"
  refine u_take S24 (by omega) fun v25 H25 l25 u25 S25 => ?_
  walk_at "go"
  refine v_ifD (fun h0 => ?_) (fun h0 => ?_)
  · walk_at "go"
    refine ⟨_, a, 400, oc.st st, rfl, M.sub (.cons 1 rfl (.refl _)) S25, by have := hb2.1; omega, fun x26 H26 S26 => ?_⟩
    walk_at "go"
    refine ⟨_, m, 400, oc.st st, rfl, M.sub (.cons 3 rfl (.refl _)) S26, by have := hb2.1; omega, fun x27 H27 S27 => ?_⟩
    walk_at "go"
    refine u_alike (S27.gotD 2 rfl) (S27.gotD 0 rfl) (stat_sh (shelf_ok S27 3 rfl) hb2 (by omega) (by have := hb2.1; omega)) ?_
    walk_at "go"
    exact k (oc.st st) _ _ _ _ hb2 (M.sub (.cons 4 rfl (.cons 3 rfl (.cons 1 rfl (.tl (.tl (.refl _)))))) S27)
  · walk_at "go"
    exact k (oc.st st) _ _ _ _ hb2 S25
theorem cut_none_to (xs : List V) (k : Int) (h : k = 0 ∨ k = 1) : cutV xs none (some k) = xs.take k.toNat := by
  rcases h with rfl | rfl
  · exact cut_to xs 0
  · exact cut_to xs 1
theorem or23 {K : PySem.W.Frag} {Q : VK} {H : Hp} {sc bag pl a m hd : Addr} {ls : List (Addr × List Int)} {q : Addr × List Int} {often way : Int} {st : Shst} {y x10 x11 : Option V}
    (hp : Pool ls) (hq : q ∈ ls) (w : way = 3 ∨ way = 5)
    (S : M (pt hd (.lst (q.2.map V.int)) :: bagR bag :: shelfR K a 400 st :: modelR m 400 st :: fz pl (.lst (rfs ls)) :: fzs ls :: []) H)
    (k : ∀ (h : Addr) (ns : List Int) H', Signs 0 16 ns → M (pt h (.lst (ns.map V.int)) :: bagR bag :: shelfR K a 400 st :: modelR m 400 st :: fz pl (.lst (rfs ls)) :: fzs ls :: []) H' → Q (.ref h) H') :
    tOrT K (tCall (sp_l_body K) [] E0 (tCons (tVar 1) (tCons (tVar 3) (tCons (tVar 4) tNil)))) (tSl (uSl K) (tVar 4) tNoPart (tPart (tOp uDiv (tVar 8) (tC (.int 5)))))
      [some (V.ref sc), some (V.ref bag), some (V.int (1 + often)), some (V.ref pl), some (V.ref q.1), y, some (V.ref a), some (V.ref m), some (V.int way), some (V.ref hd), x10, x11] H Q := by
  have sg := hp.sg q hq
  refine g_orT ?_
  walk_at "go"
  refine ⟨_, bag, pl, ls, q, rfl, hp, hq, M.sub (.cons 1 rfl (.cons 3 rfl (.cons 3 rfl (.refl _)))) S, fun p ns H1 sn S1 => ?_⟩
  have S2 : M (pt p (.lst (ns.map V.int)) :: bagR bag :: shelfR K a 400 st :: modelR m 400 st :: fz pl (.lst (rfs ls)) :: fzs ls :: []) H1 := M.sub (.cons 0 rfl (.cons 0 rfl (.cons 3 rfl (.cons 3 rfl (.cons 0 rfl (.cons 0 rfl (.nil _))))))) S1
  refine ⟨!(ns.map V.int).isEmpty, .inl ⟨_, SqL.of (S2.got 0 rfl), rfl⟩, ?_⟩
  cases hns : ns with
  | cons n r =>
    rw [hns] at S2 sn
    exact k p _ H1 sn S2
  | nil =>
    rw [if_neg (by simp)]
    walk_at "go"
    refine v_slL S2 (SqL.of (S2.gotS 5 rfl hq)) fun s1 H3 S3 => ?_
    have e3 : cutV (q.2.map V.int) none (some (way / 5)) = (q.2.take (way / 5).toNat).map V.int := by
      rw [cut_none_to _ _ (by rcases w with rfl | rfl <;> decide), List.map_take]
    rw [e3] at S3
    refine k s1 _ H3 ⟨Nat.zero_le _, ?_, fun n hn => sg.sg n (List.mem_of_mem_take hn)⟩ (M.sub (.cons 0 rfl (.tl (.refl _))) S3)
    rw [List.length_take]
    have := sg.hi
    omega
theorem pure_law {K : PySem.W.Frag} (T : TxC K) (vs : List V) (H : Hp) (Q : VK) (E : XK) (h : sp_law K vs H Q E) : t_law K { nx := fun _ H' => Q .non H', rt := Q } (L2.start ["_law_script", "_law_bag_here", "_law_often", "_law_pool_here", "_law_signs_here", "_law_turn", "_law_shelf", "_law_model", "_law_way", "_law_handed", "_law_as_was", "_law_due_here"] vs) H := by
  obtain ⟨sc, sn, rfl, hS, hl, k⟩ := h
  show t_law K _ [some (V.ref sc), none, none, none, none, none, none, none, none, none, none, none] H
  walk_at "go"
  refine u_bag (M.start hS) (fun H S => S.gotR 0 rfl) hl fun bag H1 S1 => ?_
  walk_at "go"
  refine u_take S1 (by decide) fun often H6 l6 u6 S6 => ?_
  walk_at "go"
  refine ⟨_, bag, rfl, M.sub (Rs' := [bagR bag]) (.cons 0 rfl (.nil _)) S6, fun pl ls H7 hp hp2 S7 => ?_⟩
  have q1 := hp.lo
  have q2 := hp.hi
  walk_at "go"
  refine v_make S7 fun a dx H8 S8 => ?_
  refine ⟨_, a, dx, .int 400, .int 400, rfl, S8, ThE.int K _ 400, fun z => (by cases z), fun rm z H9 S9 => ⟨rfl, ?_⟩⟩
  have er2 : rm = 400 := (Option.some.inj z).symm
  subst er2
  walk_at "go"
  refine v_dnew S9 fun m H10 S10 => ?_
  walk_at "go"
  have S11 : M (bagR bag :: shelfR K a 400 [] :: modelR m 400 [] :: fz pl (.lst (rfs ls)) :: fzs ls :: []) H10 := M.sub (.cons 2 rfl (.cons 1 rfl (.cons 0 rfl (.cons 0 rfl (.cons 0 rfl (.nil _)))))) (model_new (by decide) (by decide) S10)
  refine v_slL S11 (SqL.of (S11.gotF 3 rfl)) fun s1 H12 S12 => ?_
  walk_at "go"
  refine v_slL S12 (SqL.of (S12.gotF 4 rfl)) fun s2 H13 S13 => ?_
  walk_at "go"
  have S13' : M (bagR bag :: pt s2 (.lst (cutV (rfs ls) none (some 1))) :: pt s1 (.lst (cutV (rfs ls) (some 1) none)) :: shelfR K a 400 [] :: modelR m 400 [] :: fz pl (.lst (rfs ls)) :: fzs ls :: []) H13 := M.sub (.cons 2 rfl (.refl _)) S13
  refine u_take S13' (by decide) fun j H14 l14 u14 S14 => ?_
  walk_at "go"
  have ec1 : cutV (rfs ls) none (some 1) = (rfs ls).take 1 := cut_to _ 1
  have ec2 : cutV (rfs ls) (some 1) none = (rfs ls).drop 1 := cut_from _ 1
  rw [ec1, ec2] at S14
  have hrl : ((rfs ls).take 1).length * j.toNat ≤ 100000 := by
    have z1 : j.toNat ≤ 1 := by omega
    have z2 : ((rfs ls).take 1).length ≤ 1 := by rw [List.length_take]; exact Nat.min_le_left ..
    exact Nat.le_trans (Nat.mul_le_mul z2 z1) (by decide)
  refine v_rep (n := j) S14 (S14.got 1 rfl) (by omega) hrl fun rp H15 S15 => ?_
  walk_at "go"
  have hxs : ∀ x ∈ (rfs ls).drop 1 ++ (List.replicate j.toNat ((rfs ls).take 1)).flatten, ∃ q ∈ ls, x = .ref q.1 := by
    intro x hx
    have hx2 : x ∈ rfs ls := by
      rcases List.mem_append.mp hx with z | z
      · exact List.mem_of_mem_drop z
      · obtain ⟨l, hl1, hl2⟩ := List.mem_flatten.mp z
        rw [List.mem_replicate] at hl1
        rw [hl1.2] at hl2
        exact List.mem_of_mem_take hl2
    obtain ⟨q, hq, rfl⟩ := List.mem_map.mp hx2
    exact ⟨q, hq, rfl⟩
  have hxl : ((rfs ls).drop 1 ++ (List.replicate j.toNat ((rfs ls).take 1)).flatten).length ≤ 8 := by
    have z1 : j = 0 ∨ j = 1 := by omega
    rw [List.length_append, List.length_drop, rfs_len]
    rcases z1 with rfl | rfl
    · simp
      omega
    · simp
      omega
  refine v_catS S15 (SqL.of (S15.got 3 rfl)) (SqL.of (S15.got 0 rfl)) (by rw [List.length_append] at hxl; omega) fun ct H16 S16 => ?_
  have S17 : M (bagR bag :: shelfR K a 400 [] :: modelR m 400 [] :: fz pl (.lst (rfs ls)) :: fzs ls :: pt ct (.lst ((rfs ls).drop 1 ++ (List.replicate j.toNat ((rfs ls).take 1)).flatten)) :: []) H16 := M.sub (.cons 2 rfl (.cons 4 rfl (.cons 4 rfl (.cons 4 rfl (.cons 4 rfl (.cons 0 rfl (.nil _))))))) S16
  generalize (rfs ls).drop 1 ++ (List.replicate j.toNat ((rfs ls).take 1)).flatten = xs at hxs hxl S17
  clear S16 S15 S14 S13' S13 S12 S11
  walk_at "go"
  refine v_itL (SqL.of (S17.got 5 rfl)) ?_
  refine for_W walk_list (fun i σ H' => ∃ (st : Shst) (t : Option V), σ = [some (V.ref sc), some (V.ref bag), some (V.int (1 + often)), some (V.ref pl), t, none, some (V.ref a), some (V.ref m), none, none, none, none] ∧ Bnd i st ∧
    M (bagR bag :: shelfR K a 400 st :: modelR m 400 st :: fz pl (.lst (rfs ls)) :: fzs ls :: pt ct (.lst xs) :: []) H') ⟨[], none, rfl, Bnd.nil, S17⟩ (fun i σ H' _ ⟨st, t, _, _, S⟩ => SqL.of (S.got 5 rfl)) ?_ ?_
  · rintro i x σ H18 H19 hi ⟨st, t, rfl, hb, S18⟩ ⟨rfl, hx⟩
    obtain ⟨q, hq, rfl⟩ := hxs x (List.mem_of_getElem? hx)
    have sg := hp.sg q hq
    have ok := shelf_ok S18 1 rfl
    have hb1 := hb.1
    obtain ⟨st2, hle⟩ := lay_eq (st := st) ok (by omega) sg
    have hb2 : Bnd (i + 1) ((deedF 400 st 0 (.int 0) (.lst (q.2.map V.int))).st st) := hb.deed
    have hd : deedF 400 st 0 (.int 0) (.lst (q.2.map V.int)) = .ok (.int (sealN q.2), st2) := hle
    walk_at "go"
    refine ⟨_, m, 400, 0, st, .int 0, .ref q.1, .int 0, .lst (q.2.map V.int), rfl, by decide, by decide, fun z => absurd z (by decide), M.sub (.cons 2 rfl (.refl _)) S18, ThE.int K _ _, ThE.fzs 3 rfl hq, fun x19 H19 S19 => ?_⟩
    rw [hd] at S19 hb2
    walk_at "go"
    refine v_shelf S19 3 rfl ?_
    walk_at "go"
    refine v_list S19 (.inl (SqL.of (S19.gotS 5 rfl hq))) fun hd2 H20 S20 => ?_
    walk_at "go"
    refine ⟨_, a, 400, st, .ref hd2, .lst (q.2.map V.int), rfl, M.sub (.cons 4 rfl (.refl _)) S20, ThE.lst 0 rfl, ?_⟩
    show OutX K a 400 st _ (layF 400 st (.lst (q.2.map V.int))) _ _
    rw [hle]
    intro H21 S21
    walk_at "go"
    exact ⟨st2, _, rfl, hb2, M.sub (.cons 4 rfl (.cons 0 rfl (.cons 2 rfl (.cons 2 rfl (.cons 2 rfl (.cons 2 rfl (.nil _))))))) S21⟩
  rintro σ H18 ⟨st0, t0, rfl, hb0, S18⟩
  have hb0' : Bnd 8 st0 := hb0.mono hxl
  have S19 : M (bagR bag :: shelfR K a 400 st0 :: modelR m 400 st0 :: fz pl (.lst (rfs ls)) :: fzs ls :: []) H18 := M.sub (.cons 0 rfl (.cons 0 rfl (.cons 0 rfl (.cons 0 rfl (.cons 0 rfl (.nil _)))))) S18
  clear S18 S17
  walk_at "go"
  refine u_take S19 (by decide) fun v20 H20 l20 u20 S20 => ?_
  walk_at "go"
  refine v_itR (by omega) ?_
  have hn12 : v20.toNat ≤ 24 := by omega
  refine for_W walk_range (fun i σ H' => ∃ (st : Shst) (t y x1 x2 x3 x4 : Option V), σ = [some (V.ref sc), some (V.ref bag), some (V.int (1 + often)), some (V.ref pl), t, y, some (V.ref a), some (V.ref m), x1, x2, x3, x4] ∧ Bnd (8 + i) st ∧
    M (bagR bag :: shelfR K a 400 st :: modelR m 400 st :: fz pl (.lst (rfs ls)) :: fzs ls :: []) H') ⟨st0, _, _, _, _, _, _, rfl, hb0', S20⟩ (fun _ _ _ _ _ => trivial) ?_ ?_
  · rintro i x σ H21 H22 hi ⟨st, t, y, x1, x2, x3, x4, rfl, hb, S21⟩ ⟨rfl, rfl⟩
    walk_at "go"
    rw [rfs_len]
    refine u_take S21 (by omega) fun v14 H14 l14 u14 S14 => ?_
    obtain ⟨q, hq1, hq2, hq3⟩ := atI_rfs (ls := ls) l14 (by omega)
    refine v_ixL (SqL.of (S14.gotF 3 rfl)) hq3 ?_
    have sg := hp.sg q hq2
    have n1 := sg.lo
    have n2 := sg.hi
    walk_at "go"
    refine v_lst S14 (by simp) fun p1 H15 S15 => ?_
    walk_at "go"
    refine u_take (M.sub (.cons 1 rfl (.refl _)) S15) (by decide) fun v2 H16 l2 u2 S16 => ?_
    obtain ⟨way, ⟨w1, w2⟩, ew⟩ := menuI (xs := [V.int 3, V.int 3, V.int 3, V.int 4, V.int 5, V.int 5, V.int 0, V.int 1, V.int 2]) (v := v2) (fun n => 0 ≤ n ∧ n ≤ 5) (by simp only [AllI, and_true]; omega) l2 u2
    refine v_ixL (SqL.of (S16.got 1 rfl)) ew ?_
    have S17 : M (bagR bag :: shelfR K a 400 st :: modelR m 400 st :: fz pl (.lst (rfs ls)) :: fzs ls :: []) H16 := M.sub (.cons 0 rfl (.tl (.refl _))) S16
    walk_at "go"
    refine v_list S17 (.inl (SqL.of (S17.gotS 4 rfl hq2))) fun hd H18 S18 => ?_
    walk_at "go"
    have fin : ∀ (Bk Ct : L2.St → Hp → Prop) (h : Addr) (ns : List Int) H', Signs 0 16 ns → M (pt h (.lst (ns.map V.int)) :: bagR bag :: shelfR K a 400 st :: modelR m 400 st :: fz pl (.lst (rfs ls)) :: fzs ls :: []) H' →
        t_law_14 K ⟨fun σ H' => ∃ (st : Shst) (t y x1 x2 x3 x4 : Option V), σ = [some (V.ref sc), some (V.ref bag), some (V.int (1 + often)), some (V.ref pl), t, y, some (V.ref a), some (V.ref m), x1, x2, x3, x4] ∧ Bnd (8 + (i + 1)) st ∧
          M (bagR bag :: shelfR K a 400 st :: modelR m 400 st :: fz pl (.lst (rfs ls)) :: fzs ls :: []) H', Q, Bk, Ct⟩ [some (V.ref sc), some (V.ref bag), some (V.int (1 + often)), some (V.ref pl), some (V.ref q.1), some (V.int ((0 : Int) + (i : Nat))), some (V.ref a), some (V.ref m), some (V.int way), some (V.ref h), x3, x4] H' :=
      fun _ _ h ns H' sn S => tail23 hp hq2 sn w1 w2 hb (by omega) l6 u6 S fun st' z9 z10 z11 H'' hb' S'' => ⟨st', _, _, _, _, _, _, rfl, hb', S''⟩
    refine v_ifD (fun h3 => ?_) (fun h3 => ?_)
    · walk_at "go"
      exact or23 hp hq2 (.inl h3) S18 fun h ns H' sn S => fin _ _ h ns H' sn S
    · walk_at "go"
      refine v_ifD (fun h5 => ?_) (fun h5 => ?_)
      · walk_at "go"
        refine u_take (M.sub (.cons 1 rfl (.refl _)) S18) (by decide) fun v9 H19 l9 u9 S19 => ?_
        walk_at "go"
        refine v_ifD (fun h9 => ?_) (fun h9 => ?_)
        · walk_at "go"
          exact or23 hp hq2 (.inr h5) (M.sub (.cons 1 rfl (.refl _)) S19) fun h ns H' sn S => fin _ _ h ns H' sn S
        · repeat first | with_reducible refine v_ifF ?_ | with_reducible refine g_next ?_
          exact fin _ _ hd q.2 H19 ⟨Nat.zero_le _, n2, sg.sg⟩ (M.sub (.cons 1 rfl (.refl _)) S19)
      · repeat first | with_reducible refine v_ifF ?_ | with_reducible refine g_next ?_
        exact fin _ _ hd q.2 H18 ⟨Nat.zero_le _, n2, sg.sg⟩ S18
  · rintro σ H21 ⟨st, t, y, x1, x2, x3, x4, rfl, hb, S13⟩
    walk_at "go"
    refine ⟨_, a, 400, st, rfl, M.sub (.cons 1 rfl (.refl _)) S13, by have := hb.1; omega, fun x26 H26 S26 => ?_⟩
    walk_at "go"
    refine ⟨_, m, 400, st, rfl, M.sub (.cons 3 rfl (.refl _)) S26, by have := hb.1; omega, fun x27 H27 S27 => ?_⟩
    walk_at "go"
    refine u_alike (S27.gotD 2 rfl) (S27.gotD 0 rfl) (stat_sh (shelf_ok S27 3 rfl) hb (by omega) (by have := hb.1; omega)) ?_
    exact k _
def top (i : Nat) : Stmt := PySem.Challenge.pw_restorechain_k23_harmed_and_healed.main.body.getD i (.Pass ⟨0, 0, 0, 0⟩)
def meth (i j : Nat) : Stmt := (clsB (top i)).getD j (.Pass ⟨0, 0, 0, 0⟩)
abbrev s_l_bag : Stmt := top 25
abbrev s_l_take : Stmt := top 26
abbrev s_l_signs : Stmt := top 34
abbrev s_l_pool : Stmt := top 35
abbrev s_is_whole : Stmt := top 14
abbrev s_is_room : Stmt := top 22
abbrev s_Shelf___init__ : Stmt := meth 23 0
abbrev s_l_whole : Stmt := top 29
abbrev s_l_are_signs : Stmt := top 30
abbrev s_l_sum : Stmt := top 31
abbrev s_l_laid : Stmt := top 40
abbrev s_l_back : Stmt := top 32
abbrev s_l_is_seal : Stmt := top 33
abbrev s_l_sound : Stmt := top 39
abbrev s_l_due : Stmt := top 41
abbrev s_is_sign : Stmt := top 15
abbrev s_are_signs : Stmt := top 16
abbrev s_seal_of : Stmt := top 19
abbrev s_Shelf_free : Stmt := meth 23 14
abbrev s_Shelf_lay : Stmt := meth 23 1
abbrev s_l_body : Stmt := top 44
abbrev s_l_alike : Stmt := top 27
abbrev s_is_seal : Stmt := top 17
abbrev s_Shelf_need_kept : Stmt := meth 23 2
abbrev s_Shelf_hold : Stmt := meth 23 3
abbrev s_Shelf_let_go : Stmt := meth 23 4
abbrev s_Shelf_harm : Stmt := meth 23 5
abbrev s_Shelf_lose : Stmt := meth 23 6
abbrev s_Shelf_heal : Stmt := meth 23 7
abbrev s_Shelf_held : Stmt := meth 23 8
abbrev s_Shelf_has_sound : Stmt := meth 23 9
abbrev s_Shelf_is_sound : Stmt := meth 23 10
abbrev s_Shelf_read : Stmt := meth 23 11
abbrev s_l_deed : Stmt := top 36
abbrev s_l_refusal : Stmt := top 37
abbrev s_l_said : Stmt := top 38
abbrev s_Shelf_seals : Stmt := meth 23 12
abbrev s_Shelf_broken : Stmt := meth 23 13
abbrev s_Shelf___len__ : Stmt := meth 23 15
abbrev s_l_state : Stmt := top 42
abbrev s_l_state_due : Stmt := top 43
abbrev s_law : Stmt := top 45
abbrev s_Wrong___init__ : Stmt := meth 5 0
abbrev s_NoRoom___init__ : Stmt := meth 8 0
abbrev s_NoPiece___init__ : Stmt := meth 7 0
abbrev s_Unlike___init__ : Stmt := meth 6 0
abbrev s_Broken___init__ : Stmt := meth 9 0
structure Txt (K : PySem.W.Frag) (mg : Str → Option Value) : Prop where
  F_l_bag : FunD K "_law_bag" "_law_bag" (defArgs s_l_bag) (defBody s_l_bag) (defScope s_l_bag) [] [] (He.ga K "_law_bag") (fdOf K (He.ga K "_law_bag"))
  F_l_take : FunD K "_law_take" "_law_take" (defArgs s_l_take) (defBody s_l_take) (defScope s_l_take) [] [] (He.ga K "_law_take") (fdOf K (He.ga K "_law_take"))
  F_l_signs : FunD K "_law_signs" "_law_signs" (defArgs s_l_signs) (defBody s_l_signs) (defScope s_l_signs) [] [] (He.ga K "_law_signs") (fdOf K (He.ga K "_law_signs"))
  F_l_pool : FunD K "_law_pool" "_law_pool" (defArgs s_l_pool) (defBody s_l_pool) (defScope s_l_pool) [] [] (He.ga K "_law_pool") (fdOf K (He.ga K "_law_pool"))
  F_is_whole : FunD K "is_whole" "is_whole" (defArgs s_is_whole) (defBody s_is_whole) (defScope s_is_whole) [] [] (He.ga K "is_whole") (fdOf K (He.ga K "is_whole"))
  F_is_room : FunD K "is_room" "is_room" (defArgs s_is_room) (defBody s_is_room) (defScope s_is_room) [] [] (He.ga K "is_room") (fdOf K (He.ga K "is_room"))
  F_Shelf___init__ : FunD K "__init__" "Shelf.__init__" (defArgs s_Shelf___init__) (defBody s_Shelf___init__) (defScope s_Shelf___init__) [] [] (mA K "Shelf" "__init__") (fdOf K (mA K "Shelf" "__init__"))
  F_l_whole : FunD K "_law_whole" "_law_whole" (defArgs s_l_whole) (defBody s_l_whole) (defScope s_l_whole) [] [] (He.ga K "_law_whole") (fdOf K (He.ga K "_law_whole"))
  F_l_are_signs : FunD K "_law_are_signs" "_law_are_signs" (defArgs s_l_are_signs) (defBody s_l_are_signs) (defScope s_l_are_signs) [] [] (He.ga K "_law_are_signs") (fdOf K (He.ga K "_law_are_signs"))
  F_l_sum : FunD K "_law_sum" "_law_sum" (defArgs s_l_sum) (defBody s_l_sum) (defScope s_l_sum) [] [] (He.ga K "_law_sum") (fdOf K (He.ga K "_law_sum"))
  F_l_laid : FunD K "_law_laid" "_law_laid" (defArgs s_l_laid) (defBody s_l_laid) (defScope s_l_laid) [] [] (He.ga K "_law_laid") (fdOf K (He.ga K "_law_laid"))
  F_l_back : FunD K "_law_back" "_law_back" (defArgs s_l_back) (defBody s_l_back) (defScope s_l_back) [] [] (He.ga K "_law_back") (fdOf K (He.ga K "_law_back"))
  F_l_is_seal : FunD K "_law_is_seal" "_law_is_seal" (defArgs s_l_is_seal) (defBody s_l_is_seal) (defScope s_l_is_seal) [] [] (He.ga K "_law_is_seal") (fdOf K (He.ga K "_law_is_seal"))
  F_l_sound : FunD K "_law_sound" "_law_sound" (defArgs s_l_sound) (defBody s_l_sound) (defScope s_l_sound) [] [] (He.ga K "_law_sound") (fdOf K (He.ga K "_law_sound"))
  F_l_due : FunD K "_law_due" "_law_due" (defArgs s_l_due) (defBody s_l_due) (defScope s_l_due) [] [] (He.ga K "_law_due") (fdOf K (He.ga K "_law_due"))
  F_is_sign : FunD K "is_sign" "is_sign" (defArgs s_is_sign) (defBody s_is_sign) (defScope s_is_sign) [] [] (He.ga K "is_sign") (fdOf K (He.ga K "is_sign"))
  F_are_signs : FunD K "are_signs" "are_signs" (defArgs s_are_signs) (defBody s_are_signs) (defScope s_are_signs) [] [] (He.ga K "are_signs") (fdOf K (He.ga K "are_signs"))
  F_seal_of : FunD K "seal_of" "seal_of" (defArgs s_seal_of) (defBody s_seal_of) (defScope s_seal_of) [] [] (He.ga K "seal_of") (fdOf K (He.ga K "seal_of"))
  F_Shelf_free : FunD K "free" "Shelf.free" (defArgs s_Shelf_free) (defBody s_Shelf_free) (defScope s_Shelf_free) [] [] (mA K "Shelf" "free") (fdOf K (mA K "Shelf" "free"))
  F_Shelf_lay : FunD K "lay" "Shelf.lay" (defArgs s_Shelf_lay) (defBody s_Shelf_lay) (defScope s_Shelf_lay) [] [] (mA K "Shelf" "lay") (fdOf K (mA K "Shelf" "lay"))
  F_l_body : FunD K "_law_body" "_law_body" (defArgs s_l_body) (defBody s_l_body) (defScope s_l_body) [] [] (He.ga K "_law_body") (fdOf K (He.ga K "_law_body"))
  F_l_alike : FunD K "_law_alike" "_law_alike" (defArgs s_l_alike) (defBody s_l_alike) (defScope s_l_alike) [] [] (He.ga K "_law_alike") (fdOf K (He.ga K "_law_alike"))
  F_is_seal : FunD K "is_seal" "is_seal" (defArgs s_is_seal) (defBody s_is_seal) (defScope s_is_seal) [] [] (He.ga K "is_seal") (fdOf K (He.ga K "is_seal"))
  F_Shelf_need_kept : FunD K "need_kept" "Shelf.need_kept" (defArgs s_Shelf_need_kept) (defBody s_Shelf_need_kept) (defScope s_Shelf_need_kept) [] [] (mA K "Shelf" "need_kept") (fdOf K (mA K "Shelf" "need_kept"))
  F_Shelf_hold : FunD K "hold" "Shelf.hold" (defArgs s_Shelf_hold) (defBody s_Shelf_hold) (defScope s_Shelf_hold) [] [] (mA K "Shelf" "hold") (fdOf K (mA K "Shelf" "hold"))
  F_Shelf_let_go : FunD K "let_go" "Shelf.let_go" (defArgs s_Shelf_let_go) (defBody s_Shelf_let_go) (defScope s_Shelf_let_go) [] [] (mA K "Shelf" "let_go") (fdOf K (mA K "Shelf" "let_go"))
  F_Shelf_harm : FunD K "harm" "Shelf.harm" (defArgs s_Shelf_harm) (defBody s_Shelf_harm) (defScope s_Shelf_harm) [] [] (mA K "Shelf" "harm") (fdOf K (mA K "Shelf" "harm"))
  F_Shelf_lose : FunD K "lose" "Shelf.lose" (defArgs s_Shelf_lose) (defBody s_Shelf_lose) (defScope s_Shelf_lose) [] [] (mA K "Shelf" "lose") (fdOf K (mA K "Shelf" "lose"))
  F_Shelf_heal : FunD K "heal" "Shelf.heal" (defArgs s_Shelf_heal) (defBody s_Shelf_heal) (defScope s_Shelf_heal) [] [] (mA K "Shelf" "heal") (fdOf K (mA K "Shelf" "heal"))
  F_Shelf_held : FunD K "held" "Shelf.held" (defArgs s_Shelf_held) (defBody s_Shelf_held) (defScope s_Shelf_held) [] [] (mA K "Shelf" "held") (fdOf K (mA K "Shelf" "held"))
  F_Shelf_has_sound : FunD K "has_sound" "Shelf.has_sound" (defArgs s_Shelf_has_sound) (defBody s_Shelf_has_sound) (defScope s_Shelf_has_sound) [] [] (mA K "Shelf" "has_sound") (fdOf K (mA K "Shelf" "has_sound"))
  F_Shelf_is_sound : FunD K "is_sound" "Shelf.is_sound" (defArgs s_Shelf_is_sound) (defBody s_Shelf_is_sound) (defScope s_Shelf_is_sound) [] [] (mA K "Shelf" "is_sound") (fdOf K (mA K "Shelf" "is_sound"))
  F_Shelf_read : FunD K "read" "Shelf.read" (defArgs s_Shelf_read) (defBody s_Shelf_read) (defScope s_Shelf_read) [] [] (mA K "Shelf" "read") (fdOf K (mA K "Shelf" "read"))
  F_l_deed : FunD K "_law_deed" "_law_deed" (defArgs s_l_deed) (defBody s_l_deed) (defScope s_l_deed) [] [] (He.ga K "_law_deed") (fdOf K (He.ga K "_law_deed"))
  F_l_refusal : FunD K "_law_refusal" "_law_refusal" (defArgs s_l_refusal) (defBody s_l_refusal) (defScope s_l_refusal) [] [] (He.ga K "_law_refusal") (fdOf K (He.ga K "_law_refusal"))
  F_l_said : FunD K "_law_said" "_law_said" (defArgs s_l_said) (defBody s_l_said) (defScope s_l_said) [] [] (He.ga K "_law_said") (fdOf K (He.ga K "_law_said"))
  F_Shelf_seals : FunD K "seals" "Shelf.seals" (defArgs s_Shelf_seals) (defBody s_Shelf_seals) (defScope s_Shelf_seals) [] [] (mA K "Shelf" "seals") (fdOf K (mA K "Shelf" "seals"))
  F_Shelf_broken : FunD K "broken" "Shelf.broken" (defArgs s_Shelf_broken) (defBody s_Shelf_broken) (defScope s_Shelf_broken) [] [] (mA K "Shelf" "broken") (fdOf K (mA K "Shelf" "broken"))
  F_Shelf___len__ : FunD K "__len__" "Shelf.__len__" (defArgs s_Shelf___len__) (defBody s_Shelf___len__) (defScope s_Shelf___len__) [] [] (mA K "Shelf" "__len__") (fdOf K (mA K "Shelf" "__len__"))
  F_l_state : FunD K "_law_state" "_law_state" (defArgs s_l_state) (defBody s_l_state) (defScope s_l_state) [] [] (He.ga K "_law_state") (fdOf K (He.ga K "_law_state"))
  F_l_state_due : FunD K "_law_state_due" "_law_state_due" (defArgs s_l_state_due) (defBody s_l_state_due) (defScope s_l_state_due) [] [] (He.ga K "_law_state_due") (fdOf K (He.ga K "_law_state_due"))
  F_law : FunD K "law" "law" (defArgs s_law) (defBody s_law) (defScope s_law) [] [] (He.ga K "law") (fdOf K (He.ga K "law"))
  F_Wrong___init__ : FunD K "__init__" "Wrong.__init__" (defArgs s_Wrong___init__) (defBody s_Wrong___init__) (defScope s_Wrong___init__) [] [] (mA K "Wrong" "__init__") (fdOf K (mA K "Wrong" "__init__"))
  F_NoRoom___init__ : FunD K "__init__" "NoRoom.__init__" (defArgs s_NoRoom___init__) (defBody s_NoRoom___init__) (defScope s_NoRoom___init__) [] [] (mA K "NoRoom" "__init__") (fdOf K (mA K "NoRoom" "__init__"))
  F_NoPiece___init__ : FunD K "__init__" "NoPiece.__init__" (defArgs s_NoPiece___init__) (defBody s_NoPiece___init__) (defScope s_NoPiece___init__) [] [] (mA K "NoPiece" "__init__") (fdOf K (mA K "NoPiece" "__init__"))
  F_Unlike___init__ : FunD K "__init__" "Unlike.__init__" (defArgs s_Unlike___init__) (defBody s_Unlike___init__) (defScope s_Unlike___init__) [] [] (mA K "Unlike" "__init__") (fdOf K (mA K "Unlike" "__init__"))
  F_Broken___init__ : FunD K "__init__" "Broken.__init__" (defArgs s_Broken___init__) (defBody s_Broken___init__) (defScope s_Broken___init__) [] [] (mA K "Broken" "__init__") (fdOf K (mA K "Broken" "__init__"))
  c_MOST_ROOM : ∃ t, mg "MOST_ROOM" = some (.int 400 t)
  c_MOST_SIGN : ∃ t, mg "MOST_SIGN" = some (.int 999 t)
  c_MOST_PIECE : ∃ t, mg "MOST_PIECE" = some (.int 16 t)
  c_BASE : ∃ t, mg "BASE" = some (.int 1001 t)
  g_l_bag : mg "_law_bag" = some (.ref (He.ga K "_law_bag"))
  g_l_take : mg "_law_take" = some (.ref (He.ga K "_law_take"))
  g_l_signs : mg "_law_signs" = some (.ref (He.ga K "_law_signs"))
  g_l_pool : mg "_law_pool" = some (.ref (He.ga K "_law_pool"))
  g_is_whole : mg "is_whole" = some (.ref (He.ga K "is_whole"))
  g_is_room : mg "is_room" = some (.ref (He.ga K "is_room"))
  g_l_whole : mg "_law_whole" = some (.ref (He.ga K "_law_whole"))
  g_l_are_signs : mg "_law_are_signs" = some (.ref (He.ga K "_law_are_signs"))
  g_l_sum : mg "_law_sum" = some (.ref (He.ga K "_law_sum"))
  g_l_laid : mg "_law_laid" = some (.ref (He.ga K "_law_laid"))
  g_l_back : mg "_law_back" = some (.ref (He.ga K "_law_back"))
  g_l_is_seal : mg "_law_is_seal" = some (.ref (He.ga K "_law_is_seal"))
  g_l_sound : mg "_law_sound" = some (.ref (He.ga K "_law_sound"))
  g_l_due : mg "_law_due" = some (.ref (He.ga K "_law_due"))
  g_is_sign : mg "is_sign" = some (.ref (He.ga K "is_sign"))
  g_are_signs : mg "are_signs" = some (.ref (He.ga K "are_signs"))
  g_seal_of : mg "seal_of" = some (.ref (He.ga K "seal_of"))
  g_l_body : mg "_law_body" = some (.ref (He.ga K "_law_body"))
  g_l_alike : mg "_law_alike" = some (.ref (He.ga K "_law_alike"))
  g_is_seal : mg "is_seal" = some (.ref (He.ga K "is_seal"))
  g_l_deed : mg "_law_deed" = some (.ref (He.ga K "_law_deed"))
  g_l_refusal : mg "_law_refusal" = some (.ref (He.ga K "_law_refusal"))
  g_l_said : mg "_law_said" = some (.ref (He.ga K "_law_said"))
  g_l_state : mg "_law_state" = some (.ref (He.ga K "_law_state"))
  g_l_state_due : mg "_law_state_due" = some (.ref (He.ga K "_law_state_due"))
  g_law : mg "law" = some (.ref (He.ga K "law"))
  cg_Wrong : mg "Wrong" = some (.ref (He.ga K "Wrong"))
  cg_NoRoom : mg "NoRoom" = some (.ref (He.ga K "NoRoom"))
  cg_NoPiece : mg "NoPiece" = some (.ref (He.ga K "NoPiece"))
  cg_Unlike : mg "Unlike" = some (.ref (He.ga K "Unlike"))
  cg_Broken : mg "Broken" = some (.ref (He.ga K "Broken"))
  cg_StoreError : mg "StoreError" = some (.ref (He.ga K "StoreError"))
  cg_Missing : mg "Missing" = some (.ref (He.ga K "Missing"))
  cg_Halted : mg "Halted" = some (.ref (He.ga K "Halted"))
  cg_Shelf : mg "Shelf" = some (.ref (He.ga K "Shelf"))
  cl_Shelf : Cls K (He.ga K "Shelf")
  mk_Shelf : Mk K (He.ga K "Shelf") (mA K "Shelf" "__init__")
  na_Shelf_room : NoAttr K (He.ga K "Shelf") "room"
  na_Shelf_counts : NoAttr K (He.ga K "Shelf") "counts"
  na_Shelf_bodies : NoAttr K (He.ga K "Shelf") "bodies"
  me_Shelf_free : Meth K (He.ga K "Shelf") "free" (mA K "Shelf" "free")
  me_Shelf_lay : Meth K (He.ga K "Shelf") "lay" (mA K "Shelf" "lay")
  me_Shelf_need_kept : Meth K (He.ga K "Shelf") "need_kept" (mA K "Shelf" "need_kept")
  me_Shelf_hold : Meth K (He.ga K "Shelf") "hold" (mA K "Shelf" "hold")
  me_Shelf_let_go : Meth K (He.ga K "Shelf") "let_go" (mA K "Shelf" "let_go")
  me_Shelf_harm : Meth K (He.ga K "Shelf") "harm" (mA K "Shelf" "harm")
  me_Shelf_lose : Meth K (He.ga K "Shelf") "lose" (mA K "Shelf" "lose")
  me_Shelf_heal : Meth K (He.ga K "Shelf") "heal" (mA K "Shelf" "heal")
  me_Shelf_held : Meth K (He.ga K "Shelf") "held" (mA K "Shelf" "held")
  me_Shelf_has_sound : Meth K (He.ga K "Shelf") "has_sound" (mA K "Shelf" "has_sound")
  me_Shelf_is_sound : Meth K (He.ga K "Shelf") "is_sound" (mA K "Shelf" "is_sound")
  me_Shelf_read : Meth K (He.ga K "Shelf") "read" (mA K "Shelf" "read")
  me_Shelf_seals : Meth K (He.ga K "Shelf") "seals" (mA K "Shelf" "seals")
  me_Shelf_broken : Meth K (He.ga K "Shelf") "broken" (mA K "Shelf" "broken")
  me_Shelf___len__ : Meth K (He.ga K "Shelf") "__len__" (mA K "Shelf" "__len__")
  xb_Wrong : XcB K (He.ga K "Wrong") "ValueError" "ValueError.__new__" "ValueError.__init__" (tlB "ValueError")
  xf_Wrong : PySem.W.findIn K (.ref (He.ga K "Wrong")) "__init__" = some (some (.ref (mA K "Wrong" "__init__"))) ∧ PySem.W.typeIn K (.ref (mA K "Wrong" "__init__")) = some (.type "function")
  xc_Wrong : ExcC K (He.ga K "Wrong")
  xn_Wrong_at : chN K "Wrong" "at" = true
  xi_StoreError : XcI K (He.ga K "StoreError") "ValueError.__init__"
  xm_Wrong_StoreError : PySem.W.exmOne K (.ref (He.ga K "Wrong")) (.ref (He.ga K "StoreError")) = some true
  xm_Wrong_Missing : PySem.W.exmOne K (.ref (He.ga K "Wrong")) (.ref (He.ga K "Missing")) = some false
  xm_Wrong_Halted : PySem.W.exmOne K (.ref (He.ga K "Wrong")) (.ref (He.ga K "Halted")) = some false
  xk_Wrong_Wrong : PySem.W.kitOne K (.ref (He.ga K "Wrong")) (.ref (He.ga K "Wrong")) = some true
  xk_Wrong_NoRoom : PySem.W.kitOne K (.ref (He.ga K "Wrong")) (.ref (He.ga K "NoRoom")) = some false
  xk_Wrong_NoPiece : PySem.W.kitOne K (.ref (He.ga K "Wrong")) (.ref (He.ga K "NoPiece")) = some false
  xk_Wrong_Unlike : PySem.W.kitOne K (.ref (He.ga K "Wrong")) (.ref (He.ga K "Unlike")) = some false
  xk_Wrong_Broken : PySem.W.kitOne K (.ref (He.ga K "Wrong")) (.ref (He.ga K "Broken")) = some false
  xb_NoRoom : XcB K (He.ga K "NoRoom") "RuntimeError" "RuntimeError.__new__" "RuntimeError.__init__" (tlB "RuntimeError")
  xf_NoRoom : PySem.W.findIn K (.ref (He.ga K "NoRoom")) "__init__" = some (some (.ref (mA K "NoRoom" "__init__"))) ∧ PySem.W.typeIn K (.ref (mA K "NoRoom" "__init__")) = some (.type "function")
  xc_NoRoom : ExcC K (He.ga K "NoRoom")
  xn_NoRoom_room : chN K "NoRoom" "room" = true
  xi_Halted : XcI K (He.ga K "Halted") "RuntimeError.__init__"
  xm_NoRoom_StoreError : PySem.W.exmOne K (.ref (He.ga K "NoRoom")) (.ref (He.ga K "StoreError")) = some false
  xm_NoRoom_Missing : PySem.W.exmOne K (.ref (He.ga K "NoRoom")) (.ref (He.ga K "Missing")) = some false
  xm_NoRoom_Halted : PySem.W.exmOne K (.ref (He.ga K "NoRoom")) (.ref (He.ga K "Halted")) = some true
  xk_NoRoom_Wrong : PySem.W.kitOne K (.ref (He.ga K "NoRoom")) (.ref (He.ga K "Wrong")) = some false
  xk_NoRoom_NoRoom : PySem.W.kitOne K (.ref (He.ga K "NoRoom")) (.ref (He.ga K "NoRoom")) = some true
  xk_NoRoom_NoPiece : PySem.W.kitOne K (.ref (He.ga K "NoRoom")) (.ref (He.ga K "NoPiece")) = some false
  xk_NoRoom_Unlike : PySem.W.kitOne K (.ref (He.ga K "NoRoom")) (.ref (He.ga K "Unlike")) = some false
  xk_NoRoom_Broken : PySem.W.kitOne K (.ref (He.ga K "NoRoom")) (.ref (He.ga K "Broken")) = some false
  xb_NoPiece : XcB K (He.ga K "NoPiece") "LookupError" "LookupError.__new__" "LookupError.__init__" (tlB "LookupError")
  xf_NoPiece : PySem.W.findIn K (.ref (He.ga K "NoPiece")) "__init__" = some (some (.ref (mA K "NoPiece" "__init__"))) ∧ PySem.W.typeIn K (.ref (mA K "NoPiece" "__init__")) = some (.type "function")
  xc_NoPiece : ExcC K (He.ga K "NoPiece")
  xn_NoPiece_seal : chN K "NoPiece" "seal" = true
  xi_Missing : XcI K (He.ga K "Missing") "LookupError.__init__"
  xm_NoPiece_StoreError : PySem.W.exmOne K (.ref (He.ga K "NoPiece")) (.ref (He.ga K "StoreError")) = some false
  xm_NoPiece_Missing : PySem.W.exmOne K (.ref (He.ga K "NoPiece")) (.ref (He.ga K "Missing")) = some true
  xm_NoPiece_Halted : PySem.W.exmOne K (.ref (He.ga K "NoPiece")) (.ref (He.ga K "Halted")) = some false
  xk_NoPiece_Wrong : PySem.W.kitOne K (.ref (He.ga K "NoPiece")) (.ref (He.ga K "Wrong")) = some false
  xk_NoPiece_NoRoom : PySem.W.kitOne K (.ref (He.ga K "NoPiece")) (.ref (He.ga K "NoRoom")) = some false
  xk_NoPiece_NoPiece : PySem.W.kitOne K (.ref (He.ga K "NoPiece")) (.ref (He.ga K "NoPiece")) = some true
  xk_NoPiece_Unlike : PySem.W.kitOne K (.ref (He.ga K "NoPiece")) (.ref (He.ga K "Unlike")) = some false
  xk_NoPiece_Broken : PySem.W.kitOne K (.ref (He.ga K "NoPiece")) (.ref (He.ga K "Broken")) = some false
  xb_Unlike : XcB K (He.ga K "Unlike") "ValueError" "ValueError.__new__" "ValueError.__init__" (tlB "ValueError")
  xf_Unlike : PySem.W.findIn K (.ref (He.ga K "Unlike")) "__init__" = some (some (.ref (mA K "Unlike" "__init__"))) ∧ PySem.W.typeIn K (.ref (mA K "Unlike" "__init__")) = some (.type "function")
  xc_Unlike : ExcC K (He.ga K "Unlike")
  xn_Unlike_seal : chN K "Unlike" "seal" = true
  xm_Unlike_StoreError : PySem.W.exmOne K (.ref (He.ga K "Unlike")) (.ref (He.ga K "StoreError")) = some true
  xm_Unlike_Missing : PySem.W.exmOne K (.ref (He.ga K "Unlike")) (.ref (He.ga K "Missing")) = some false
  xm_Unlike_Halted : PySem.W.exmOne K (.ref (He.ga K "Unlike")) (.ref (He.ga K "Halted")) = some false
  xk_Unlike_Wrong : PySem.W.kitOne K (.ref (He.ga K "Unlike")) (.ref (He.ga K "Wrong")) = some false
  xk_Unlike_NoRoom : PySem.W.kitOne K (.ref (He.ga K "Unlike")) (.ref (He.ga K "NoRoom")) = some false
  xk_Unlike_NoPiece : PySem.W.kitOne K (.ref (He.ga K "Unlike")) (.ref (He.ga K "NoPiece")) = some false
  xk_Unlike_Unlike : PySem.W.kitOne K (.ref (He.ga K "Unlike")) (.ref (He.ga K "Unlike")) = some true
  xk_Unlike_Broken : PySem.W.kitOne K (.ref (He.ga K "Unlike")) (.ref (He.ga K "Broken")) = some false
  xb_Broken : XcB K (He.ga K "Broken") "RuntimeError" "RuntimeError.__new__" "RuntimeError.__init__" (tlB "RuntimeError")
  xf_Broken : PySem.W.findIn K (.ref (He.ga K "Broken")) "__init__" = some (some (.ref (mA K "Broken" "__init__"))) ∧ PySem.W.typeIn K (.ref (mA K "Broken" "__init__")) = some (.type "function")
  xc_Broken : ExcC K (He.ga K "Broken")
  xn_Broken_seal : chN K "Broken" "seal" = true
  xm_Broken_StoreError : PySem.W.exmOne K (.ref (He.ga K "Broken")) (.ref (He.ga K "StoreError")) = some false
  xm_Broken_Missing : PySem.W.exmOne K (.ref (He.ga K "Broken")) (.ref (He.ga K "Missing")) = some false
  xm_Broken_Halted : PySem.W.exmOne K (.ref (He.ga K "Broken")) (.ref (He.ga K "Halted")) = some true
  xk_Broken_Wrong : PySem.W.kitOne K (.ref (He.ga K "Broken")) (.ref (He.ga K "Wrong")) = some false
  xk_Broken_NoRoom : PySem.W.kitOne K (.ref (He.ga K "Broken")) (.ref (He.ga K "NoRoom")) = some false
  xk_Broken_NoPiece : PySem.W.kitOne K (.ref (He.ga K "Broken")) (.ref (He.ga K "NoPiece")) = some false
  xk_Broken_Unlike : PySem.W.kitOne K (.ref (He.ga K "Broken")) (.ref (He.ga K "Unlike")) = some false
  xk_Broken_Broken : PySem.W.kitOne K (.ref (He.ga K "Broken")) (.ref (He.ga K "Broken")) = some true
  b_abs : mg "abs" = none
  b_len : mg "len" = none
  b_range : mg "range" = none
  b_list : mg "list" = none
  b_isinstance : mg "isinstance" = none
  b_int : mg "int" = none
  b_bool : mg "bool" = none
  b_reversed : mg "reversed" = none
  b_repr : mg "repr" = none
  b_sorted : mg "sorted" = none
theorem Txt.c {K : PySem.W.Frag} {mg : Str → Option Value} (T : Txt K mg) : TxC K := ⟨T.cl_Shelf, T.na_Shelf_room, T.na_Shelf_counts, T.na_Shelf_bodies, T.xc_Wrong, T.xn_Wrong_at, T.xm_Wrong_StoreError, T.xm_Wrong_Missing, T.xm_Wrong_Halted, T.xk_Wrong_Wrong, T.xk_Wrong_NoRoom, T.xk_Wrong_NoPiece, T.xk_Wrong_Unlike, T.xk_Wrong_Broken, T.xc_NoRoom, T.xn_NoRoom_room, T.xm_NoRoom_StoreError, T.xm_NoRoom_Missing, T.xm_NoRoom_Halted, T.xk_NoRoom_Wrong, T.xk_NoRoom_NoRoom, T.xk_NoRoom_NoPiece, T.xk_NoRoom_Unlike, T.xk_NoRoom_Broken, T.xc_NoPiece, T.xn_NoPiece_seal, T.xm_NoPiece_StoreError, T.xm_NoPiece_Missing, T.xm_NoPiece_Halted, T.xk_NoPiece_Wrong, T.xk_NoPiece_NoRoom, T.xk_NoPiece_NoPiece, T.xk_NoPiece_Unlike, T.xk_NoPiece_Broken, T.xc_Unlike, T.xn_Unlike_seal, T.xm_Unlike_StoreError, T.xm_Unlike_Missing, T.xm_Unlike_Halted, T.xk_Unlike_Wrong, T.xk_Unlike_NoRoom, T.xk_Unlike_NoPiece, T.xk_Unlike_Unlike, T.xk_Unlike_Broken, T.xc_Broken, T.xn_Broken_seal, T.xm_Broken_StoreError, T.xm_Broken_Missing, T.xm_Broken_Halted, T.xk_Broken_Wrong, T.xk_Broken_NoRoom, T.xk_Broken_NoPiece, T.xk_Broken_Unlike, T.xk_Broken_Broken⟩
section
variable {P : Program} {w : World} {K : PySem.W.Frag} {mg : Str → Option Value} {base : Heap}
theorem sc_Wrong___init__ : FnScope ["self", "at"] ["self", "at"] (defScope s_Wrong___init__) := ⟨rfl, rfl, rfl, by decide +kernel, rfl, by decide +kernel, by decide +kernel⟩
theorem bd_Wrong___init__ (T : Txt K mg) : Binds K (fdOf K (mA K "Wrong" "__init__")) ["self", "at"] [] := T.F_Wrong___init__.bindsN fun _ _ _ _ _ _ us hl => match us, hl with | [_, _], _ => rfl
theorem ok_Wrong___init__ (T : Txt K mg) : FnX false P w K mg base CX0 1 (mA K "Wrong" "__init__") (fdOf K (mA K "Wrong" "__init__")) ["self", "at"] (spX (He.ga K "Wrong") "at") := by
  refine okX T.F_Wrong___init__ sc_Wrong___init__ lenX (fun cdv A outer s H vs Q E hgu0 hr h => ⟨_, PSs.nox ?_, pureX (msg := "not what is wanted here") rfl T.xb_Wrong (chN_ok T.xn_Wrong_at) vs H Q E h⟩)
  exact (pss_cons (ps_expr (pe_xi rfl T.cg_StoreError T.xi_StoreError (pa_cons (pv 0) (pa_cons pe_str pa_nil)))) (pss_one (ps_xs (pv 0) (pv 1))))
theorem sc_NoRoom___init__ : FnScope ["self", "room"] ["self", "room"] (defScope s_NoRoom___init__) := ⟨rfl, rfl, rfl, by decide +kernel, rfl, by decide +kernel, by decide +kernel⟩
theorem bd_NoRoom___init__ (T : Txt K mg) : Binds K (fdOf K (mA K "NoRoom" "__init__")) ["self", "room"] [] := T.F_NoRoom___init__.bindsN fun _ _ _ _ _ _ us hl => match us, hl with | [_, _], _ => rfl
theorem ok_NoRoom___init__ (T : Txt K mg) : FnX false P w K mg base CX0 1 (mA K "NoRoom" "__init__") (fdOf K (mA K "NoRoom" "__init__")) ["self", "room"] (spX (He.ga K "NoRoom") "room") := by
  refine okX T.F_NoRoom___init__ sc_NoRoom___init__ lenX (fun cdv A outer s H vs Q E hgu0 hr h => ⟨_, PSs.nox ?_, pureX (msg := "it is full") rfl T.xb_NoRoom (chN_ok T.xn_NoRoom_room) vs H Q E h⟩)
  exact (pss_cons (ps_expr (pe_xi rfl T.cg_Halted T.xi_Halted (pa_cons (pv 0) (pa_cons pe_str pa_nil)))) (pss_one (ps_xs (pv 0) (pv 1))))
theorem sc_NoPiece___init__ : FnScope ["self", "seal"] ["self", "seal"] (defScope s_NoPiece___init__) := ⟨rfl, rfl, rfl, by decide +kernel, rfl, by decide +kernel, by decide +kernel⟩
theorem bd_NoPiece___init__ (T : Txt K mg) : Binds K (fdOf K (mA K "NoPiece" "__init__")) ["self", "seal"] [] := T.F_NoPiece___init__.bindsN fun _ _ _ _ _ _ us hl => match us, hl with | [_, _], _ => rfl
theorem ok_NoPiece___init__ (T : Txt K mg) : FnX false P w K mg base CX0 1 (mA K "NoPiece" "__init__") (fdOf K (mA K "NoPiece" "__init__")) ["self", "seal"] (spX (He.ga K "NoPiece") "seal") := by
  refine okX T.F_NoPiece___init__ sc_NoPiece___init__ lenX (fun cdv A outer s H vs Q E hgu0 hr h => ⟨_, PSs.nox ?_, pureX (msg := "no such piece") rfl T.xb_NoPiece (chN_ok T.xn_NoPiece_seal) vs H Q E h⟩)
  exact (pss_cons (ps_expr (pe_xi rfl T.cg_Missing T.xi_Missing (pa_cons (pv 0) (pa_cons pe_str pa_nil)))) (pss_one (ps_xs (pv 0) (pv 1))))
theorem sc_Unlike___init__ : FnScope ["self", "seal"] ["self", "seal"] (defScope s_Unlike___init__) := ⟨rfl, rfl, rfl, by decide +kernel, rfl, by decide +kernel, by decide +kernel⟩
theorem bd_Unlike___init__ (T : Txt K mg) : Binds K (fdOf K (mA K "Unlike" "__init__")) ["self", "seal"] [] := T.F_Unlike___init__.bindsN fun _ _ _ _ _ _ us hl => match us, hl with | [_, _], _ => rfl
theorem ok_Unlike___init__ (T : Txt K mg) : FnX false P w K mg base CX0 1 (mA K "Unlike" "__init__") (fdOf K (mA K "Unlike" "__init__")) ["self", "seal"] (spX (He.ga K "Unlike") "seal") := by
  refine okX T.F_Unlike___init__ sc_Unlike___init__ lenX (fun cdv A outer s H vs Q E hgu0 hr h => ⟨_, PSs.nox ?_, pureX (msg := "other signs") rfl T.xb_Unlike (chN_ok T.xn_Unlike_seal) vs H Q E h⟩)
  exact (pss_cons (ps_expr (pe_xi rfl T.cg_StoreError T.xi_StoreError (pa_cons (pv 0) (pa_cons pe_str pa_nil)))) (pss_one (ps_xs (pv 0) (pv 1))))
theorem sc_Broken___init__ : FnScope ["self", "seal"] ["self", "seal"] (defScope s_Broken___init__) := ⟨rfl, rfl, rfl, by decide +kernel, rfl, by decide +kernel, by decide +kernel⟩
theorem bd_Broken___init__ (T : Txt K mg) : Binds K (fdOf K (mA K "Broken" "__init__")) ["self", "seal"] [] := T.F_Broken___init__.bindsN fun _ _ _ _ _ _ us hl => match us, hl with | [_, _], _ => rfl
theorem ok_Broken___init__ (T : Txt K mg) : FnX false P w K mg base CX0 1 (mA K "Broken" "__init__") (fdOf K (mA K "Broken" "__init__")) ["self", "seal"] (spX (He.ga K "Broken") "seal") := by
  refine okX T.F_Broken___init__ sc_Broken___init__ lenX (fun cdv A outer s H vs Q E hgu0 hr h => ⟨_, PSs.nox ?_, pureX (msg := "it is not whole") rfl T.xb_Broken (chN_ok T.xn_Broken_seal) vs H Q E h⟩)
  exact (pss_cons (ps_expr (pe_xi rfl T.cg_Halted T.xi_Halted (pa_cons (pv 0) (pa_cons pe_str pa_nil)))) (pss_one (ps_xs (pv 0) (pv 1))))
theorem sc_l_bag : FnScope ["_law_script", "_law_cell"] ["_law_script"] (defScope s_l_bag) := ⟨rfl, rfl, rfl, by decide +kernel, rfl, by decide +kernel, by decide +kernel⟩
theorem bd_l_bag (T : Txt K mg) : Binds K (fdOf K (He.ga K "_law_bag")) ["_law_script"] [] := T.F_l_bag.bindsN fun _ _ _ _ _ _ us hl => match us, hl with | [_], _ => rfl
theorem ok_l_bag (T : Txt K mg) (nd : base.NoDigits) : FnX false P w K mg base CX0 1 (He.ga K "_law_bag") (fdOf K (He.ga K "_law_bag")) ["_law_script"] (sp_l_bag K) := by
  refine okX T.F_l_bag sc_l_bag len_l_bag (fun cdv A outer s H vs Q E hgu0 hr h => ⟨t_l_bag K, PSs.nox ?_, pure_l_bag vs H Q E h⟩)
  exact (pss_one (ps_ret (pe_lst (pa_cons pe_int (pa_cons pe_int (pa_cons pe_int (pa_cons (pe_lc (own := [("_law_cell", 1)]) (g := (gName 1)) (tt := tYes) rfl sc_l_bag.nd (pi_list (pe_slice sl_any (pv 0) po_none (po_some pe_int))) (blkOk_by (own := [("_law_cell", 1)]) (N := ["_law_script", "_law_cell"]) (sc := defScope s_l_bag) (by decide +kernel)) (fun _ _ _ _ _ => (pg_name (i := 1) sc_l_bag.nd rfl (by first | exact Or.inl rfl | exact Or.inr rfl))) (fun _ _ _ _ _ => pts_nil) (fun _ _ _ _ _ => (pe_callB cr_abs (by rfl) T.b_abs (by decide +kernel) (pa_cons (pv 1) pa_nil)))) pa_nil)))))))
theorem sc_l_take : FnScope ["_law_bag_here", "_law_many", "_law_first", "_law_second", "_law_cell", "_law_value"] ["_law_bag_here", "_law_many"] (defScope s_l_take) := ⟨rfl, rfl, rfl, by decide +kernel, rfl, by decide +kernel, by decide +kernel⟩
theorem bd_l_take (T : Txt K mg) : Binds K (fdOf K (He.ga K "_law_take")) ["_law_bag_here", "_law_many"] [] := T.F_l_take.bindsN fun _ _ _ _ _ _ us hl => match us, hl with | [_, _], _ => rfl
theorem ok_l_take (T : Txt K mg) (nd : base.NoDigits) : FnX false P w K mg base CX0 1 (He.ga K "_law_take") (fdOf K (He.ga K "_law_take")) ["_law_bag_here", "_law_many"] (sp_l_take K) := by
  refine okX T.F_l_take sc_l_take len_l_take (fun cdv A outer s H vs Q E hgu0 hr h => ⟨t_l_take K, PSs.nox ?_, pure_l_take vs H Q E h⟩)
  exact (pss_cons (ps_if (pt_cmpR (uo_eq hr.units) (pe_ix ix_any (pv 0) pe_int (fun _ _ => rfl)) pe_int (nomark _)) (pss_cons (ps_set (i := 4) sc_l_take.nd rfl (by first | exact Or.inl rfl | exact Or.inr rfl) pe_int)
      (pss_cons (ps_if (pt_cmpR uo_lt (pe_ix ix_any (pv 0) pe_int (fun _ _ => rfl)) (pe_callB cr_len (by rfl) T.b_len (by decide +kernel) (pa_cons (pe_ix ix_any (pv 0) pe_int (fun _ _ => rfl)) pa_nil)) (nomark _)) (pss_one (ps_set (i := 4) sc_l_take.nd rfl (by first | exact Or.inl rfl | exact Or.inr rfl) (pe_ix ix_any (pe_ix ix_any (pv 0) pe_int (fun _ _ => rfl)) (pe_ix ix_any (pv 0) pe_int (fun _ _ => rfl)) (fun _ _ => rfl)))) pss_nil)
      (pss_cons (ps_augS (pv 0) pe_int (get_any hr.u1) pe_int (ip_of io_add) (set_any hr.u1))
      (pss_cons (ps_if (pt_cmpR uo_ge (pv 4) pe_int (nomark _)) (pss_one (ps_asg (pv 4) (pg_sub (pv 0) pe_int (set_any hr.u1)))) pss_nil)
      (pss_one (ps_asg (pe_op uo_mod (pe_op uo_add (pe_op uo_add (pe_op uo_mul (pe_ix ix_any (pv 0) pe_int (fun _ _ => rfl)) pe_int) (pe_op uo_mod (pv 4) pe_int)) (pe_op uo_mul pe_int (pe_ix ix_any (pv 0) pe_int (fun _ _ => rfl)))) pe_int) (pg_sub (pv 0) pe_int (set_any hr.u1)))))))) pss_nil)
      (pss_cons (ps_if (pt_cmpR uo_gt (pe_ix ix_any (pv 0) pe_int (fun _ _ => rfl)) pe_int (nomark _)) (pss_cons (ps_set (i := 5) sc_l_take.nd rfl (by first | exact Or.inl rfl | exact Or.inr rfl) (pe_op uo_mod (pe_ix ix_any (pv 0) pe_int (fun _ _ => rfl)) (pv 1)))
      (pss_cons (ps_asg (pe_op uo_div (pe_ix ix_any (pv 0) pe_int (fun _ _ => rfl)) (pv 1)) (pg_sub (pv 0) pe_int (set_any hr.u1)))
      (pss_one (ps_ret (pv 5))))) pss_nil)
      (pss_cons (ps_set (i := 2) sc_l_take.nd rfl (by first | exact Or.inl rfl | exact Or.inr rfl) (pe_op uo_mod (pe_op uo_mul (pe_op uo_add (pe_ix ix_any (pv 0) pe_int (fun _ _ => rfl)) pe_int) pe_int) pe_int))
      (pss_cons (ps_set (i := 3) sc_l_take.nd rfl (by first | exact Or.inl rfl | exact Or.inr rfl) (pe_op uo_mod (pe_op uo_mul (pe_op uo_mod (pe_op uo_mul (pv 2) (pv 2)) pe_int) pe_int) pe_int))
      (pss_cons (ps_if (pt_cmpR uo_gt (pv 1) pe_int (nomark _)) (pss_one (ps_ret (pe_op uo_mod (pe_op uo_add (pe_op uo_mul (pv 3) pe_int) (pv 2)) (pv 1)))) pss_nil)
      (pss_one (ps_ret (pe_op uo_mod (pe_op uo_div (pv 3) pe_int) (pv 1)))))))))
theorem sc_l_signs : FnScope ["_law_bag_here", "_law_many", "_law_top", "_law_found", "_law_k"] ["_law_bag_here"] (defScope s_l_signs) := ⟨rfl, rfl, rfl, by decide +kernel, rfl, by decide +kernel, by decide +kernel⟩
theorem bd_l_signs (T : Txt K mg) : Binds K (fdOf K (He.ga K "_law_signs")) ["_law_bag_here"] [] := T.F_l_signs.bindsN fun _ _ _ _ _ _ us hl => match us, hl with | [_], _ => rfl
theorem ok_l_signs (T : Txt K mg) (nd : base.NoDigits) : FnX false P w K mg base CX0 2 (He.ga K "_law_signs") (fdOf K (He.ga K "_law_signs")) ["_law_bag_here"] (sp_l_signs K) := by
  refine okX T.F_l_signs sc_l_signs len_l_signs (fun cdv A outer s H vs Q E hgu0 hr h => ⟨t_l_signs K, PSs.nox ?_, pure_l_signs vs H Q E h⟩)
  exact (pss_cons (ps_set (i := 1) sc_l_signs.nd rfl (by first | exact Or.inl rfl | exact Or.inr rfl) (pe_ix ix_any (pe_lst (pa_cons pe_int (pa_cons pe_int (pa_cons (pe_op uo_add pe_int (pe_callX (ok_l_take T nd) (fun z => nomatch z) hr rfl T.g_l_take T.F_l_take.kp (bd_l_take T) .nil pass0 (pa_cons (pv 0) (pa_cons pe_int pa_nil)))) (pa_cons pe_int pa_nil))))) (pe_callX (ok_l_take T nd) (fun z => nomatch z) hr rfl T.g_l_take T.F_l_take.kp (bd_l_take T) .nil pass0 (pa_cons (pv 0) (pa_cons pe_int pa_nil))) (fun _ _ => rfl)))
      (pss_cons (ps_set (i := 2) sc_l_signs.nd rfl (by first | exact Or.inl rfl | exact Or.inr rfl) (pe_ix ix_any (pe_lst (pa_cons pe_int (pa_cons pe_int (pa_cons pe_int pa_nil)))) (pe_callX (ok_l_take T nd) (fun z => nomatch z) hr rfl T.g_l_take T.F_l_take.kp (bd_l_take T) .nil pass0 (pa_cons (pv 0) (pa_cons pe_int pa_nil))) (fun _ _ => rfl)))
      (pss_cons (ps_setLc (i := 3) (own := [("_law_k", 4)]) (g := (gName 4)) (tt := tYes) rfl sc_l_signs.nd rfl rfl (sw_true rfl rfl rfl (by decide +kernel)) (pi_range1 (by rfl) T.b_range (pa_cons (pv 1) pa_nil)) (blkOk_by (own := [("_law_k", 4)]) (N := ["_law_bag_here", "_law_many", "_law_top", "_law_found", "_law_k"]) (sc := defScope s_l_signs) (by decide +kernel)) (fun _ _ _ _ _ => (pg_name (i := 4) sc_l_signs.nd rfl (by first | exact Or.inl rfl | exact Or.inr rfl))) (fun _ _ _ _ _ => pts_nil) (fun _ _ _ _ _ => (pe_callX (ok_l_take T nd) (fun z => nomatch z) hr rfl T.g_l_take T.F_l_take.kp (bd_l_take T) .nil pass0 (pa_cons (pv 0) (pa_cons (pv 2) pa_nil)))))
      (pss_cons (ps_if (pt_cmpR (uo_eq hr.units) (pe_callX (ok_l_take T nd) (fun z => nomatch z) hr rfl T.g_l_take T.F_l_take.kp (bd_l_take T) .nil pass0 (pa_cons (pv 0) (pa_cons pe_int pa_nil))) pe_int (nomark _)) (pss_one (ps_asg pe_int (pg_sub (pv 3) (pe_callX (ok_l_take T nd) (fun z => nomatch z) hr rfl T.g_l_take T.F_l_take.kp (bd_l_take T) .nil pass0 (pa_cons (pv 0) (pa_cons (pv 1) pa_nil))) (set_any hr.u1)))) pss_nil)
      (pss_one (ps_ret (pv 3)))))))
theorem sc_l_pool : FnScope ["_law_bag_here", "_law_found", "_law_k", "_law_signs_here", "_law_more"] ["_law_bag_here"] (defScope s_l_pool) := ⟨rfl, rfl, rfl, by decide +kernel, rfl, by decide +kernel, by decide +kernel⟩
theorem bd_l_pool (T : Txt K mg) : Binds K (fdOf K (He.ga K "_law_pool")) ["_law_bag_here"] [] := T.F_l_pool.bindsN fun _ _ _ _ _ _ us hl => match us, hl with | [_], _ => rfl
theorem ok_l_pool (T : Txt K mg) (nd : base.NoDigits) : FnX false P w K mg base CX0 3 (He.ga K "_law_pool") (fdOf K (He.ga K "_law_pool")) ["_law_bag_here"] (sp_l_pool K) := by
  refine okX T.F_l_pool sc_l_pool len_l_pool (fun cdv A outer s H vs Q E hgu0 hr h => ⟨t_l_pool K, PSs.nox ?_, pure_l_pool vs H Q E h⟩)
  exact (pss_cons (ps_set (i := 1) sc_l_pool.nd rfl (by first | exact Or.inl rfl | exact Or.inr rfl) (pe_lst (pa_cons (pe_callX (ok_l_signs T nd) (fun z => nomatch z) hr rfl T.g_l_signs T.F_l_signs.kp (bd_l_signs T) .nil pass0 (pa_cons (pv 0) pa_nil)) pa_nil)))
      (pss_cons (ps_for PassesOwn.never rfl (pi_range1 (by rfl) T.b_range (pa_cons (pe_op uo_add pe_int (pe_callX (ok_l_take T nd) (fun z => nomatch z) (hr.mono (by decide)) rfl T.g_l_take T.F_l_take.kp (bd_l_take T) .nil pass0 (pa_cons (pv 0) (pa_cons pe_int pa_nil)))) pa_nil)) (pg_name (i := 2) sc_l_pool.nd rfl (by first | exact Or.inl rfl | exact Or.inr rfl)) (pss_cons (ps_set (i := 3) sc_l_pool.nd rfl (by first | exact Or.inl rfl | exact Or.inr rfl) (pe_callTy cr_list (by rfl) T.b_list (by decide +kernel) (pa_cons (pe_ix ix_any (pv 1) (pe_callX (ok_l_take T nd) (fun z => nomatch z) (hr.mono (by decide)) rfl T.g_l_take T.F_l_take.kp (bd_l_take T) .nil pass0 (pa_cons (pv 0) (pa_cons (pe_callB cr_len (by rfl) T.b_len (by decide +kernel) (pa_cons (pv 1) pa_nil)) pa_nil))) (fun _ _ => rfl)) pa_nil)))
      (pss_cons (ps_asg (pe_callX (ok_l_take T nd) (fun z => nomatch z) (hr.mono (by decide)) rfl T.g_l_take T.F_l_take.kp (bd_l_take T) .nil pass0 (pa_cons (pv 0) (pa_cons pe_int pa_nil))) (pg_sub (pv 3) (pe_callX (ok_l_take T nd) (fun z => nomatch z) (hr.mono (by decide)) rfl T.g_l_take T.F_l_take.kp (bd_l_take T) .nil pass0 (pa_cons (pv 0) (pa_cons (pe_callB cr_len (by rfl) T.b_len (by decide +kernel) (pa_cons (pv 3) pa_nil)) pa_nil))) (set_any hr.u1)))
      (pss_cons (ps_set (i := 4) sc_l_pool.nd rfl (by first | exact Or.inl rfl | exact Or.inr rfl) (pe_lst (pa_cons (pe_callX (ok_l_take T nd) (fun z => nomatch z) (hr.mono (by decide)) rfl T.g_l_take T.F_l_take.kp (bd_l_take T) .nil pass0 (pa_cons (pv 0) (pa_cons pe_int pa_nil))) pa_nil)))
      (pss_one (ps_expr (pe_bm PySem.F.plainAttrs_list PySem.F.slot_list_append PySem.F.type_list_append mt_append (pv 1) (pa_cons (pe_ix ix_any (pe_lst (pa_cons (pv 3) (pa_cons (pe_orT (pe_slice sl_any (pv 3) (po_some pe_int) po_none) (pe_one (pv 4))) (pa_cons (pe_slice sl_any (pe_op uo_add (pv 3) (pv 4)) (po_some (pe_un un_neg pe_int)) po_none) (pa_cons (pe_callX (ok_l_signs T nd) (fun z => nomatch z) hr rfl T.g_l_signs T.F_l_signs.kp (bd_l_signs T) .nil pass0 (pa_cons (pv 0) pa_nil)) pa_nil))))) (pe_callX (ok_l_take T nd) (fun z => nomatch z) (hr.mono (by decide)) rfl T.g_l_take T.F_l_take.kp (bd_l_take T) .nil pass0 (pa_cons (pv 0) (pa_cons pe_int pa_nil))) (fun _ _ => rfl)) pa_nil))))))))
      (pss_one (ps_ret (pv 1)))))
theorem sc_is_whole : FnScope ["thing"] ["thing"] (defScope s_is_whole) := ⟨rfl, rfl, rfl, by decide +kernel, rfl, by decide +kernel, by decide +kernel⟩
theorem bd_is_whole (T : Txt K mg) : Binds K (fdOf K (He.ga K "is_whole")) ["thing"] [] := T.F_is_whole.bindsN fun _ _ _ _ _ _ us hl => match us, hl with | [_], _ => rfl
theorem ok_is_whole (T : Txt K mg) (nd : base.NoDigits) : FnX false P w K mg base CX0 1 (He.ga K "is_whole") (fdOf K (He.ga K "is_whole")) ["thing"] (sp_is_whole K) := by
  refine okX T.F_is_whole sc_is_whole len_is_whole (fun cdv A outer s H vs Q E hgu0 hr h => ⟨t_is_whole K, PSs.nox ?_, pure_is_whole vs H Q E h⟩)
  exact (pss_one (ps_ret (pe_and (pe_callB call_isi (by rfl) T.b_isinstance (by decide +kernel) (pa_cons (pv 0) (pa_cons (pe_bltn (by rfl) T.b_int (by decide +kernel) rfl) pa_nil))) (pe_one (pe_not (pe_callB call_isi (by rfl) T.b_isinstance (by decide +kernel) (pa_cons (pv 0) (pa_cons (pe_bltn (by rfl) T.b_bool (by decide +kernel) rfl) pa_nil))))))))
theorem sc_is_room : FnScope ["thing"] ["thing"] (defScope s_is_room) := ⟨rfl, rfl, rfl, by decide +kernel, rfl, by decide +kernel, by decide +kernel⟩
theorem bd_is_room (T : Txt K mg) : Binds K (fdOf K (He.ga K "is_room")) ["thing"] [] := T.F_is_room.bindsN fun _ _ _ _ _ _ us hl => match us, hl with | [_], _ => rfl
theorem ok_is_room (T : Txt K mg) (nd : base.NoDigits) : FnX false P w K mg base CX0 2 (He.ga K "is_room") (fdOf K (He.ga K "is_room")) ["thing"] (sp_is_room K) := by
  refine okX T.F_is_room sc_is_room len_is_room (fun cdv A outer s H vs Q E hgu0 hr h => ⟨t_is_room K, PSs.nox ?_, pure_is_room vs H Q E h⟩)
  exact (pss_one (ps_ret (pe_and (pe_callX (ok_is_whole T nd) (fun z => nomatch z) hr rfl T.g_is_whole T.F_is_whole.kp (bd_is_whole T) .nil pass0 (pa_cons (pv 0) pa_nil)) (pe_one (pe_chain uo_le uo_le pe_int (pv 0) (pe_globI rfl T.c_MOST_ROOM))))))
theorem sc_Shelf___init__ : FnScope ["self", "room"] ["self", "room"] (defScope s_Shelf___init__) := ⟨rfl, rfl, rfl, by decide +kernel, rfl, by decide +kernel, by decide +kernel⟩
theorem bd_Shelf___init__ (T : Txt K mg) : Binds K (fdOf K (mA K "Shelf" "__init__")) ["self", "room"] [] := T.F_Shelf___init__.bindsN fun _ _ _ _ _ _ us hl => match us, hl with | [_, _], _ => rfl
theorem ok_Shelf___init__ (T : Txt K mg) (nd : base.NoDigits) : FnX false P w K mg base (L2.CX P w) 3 (mA K "Shelf" "__init__") (fdOf K (mA K "Shelf" "__init__")) ["self", "room"] (sp_Shelf___init__ K) := by
  refine okW T.F_Shelf___init__ sc_Shelf___init__ len_Shelf___init__ (fun cdv A outer s H vs Q E hgu0 hr h tk pw => ⟨t_Shelf___init__ K (WT E), ?_, pure_Shelf___init__ T.c vs H Q E h⟩)
  exact (pss_cons (ps_if (pt_not (pt_val (pe_callX (ok_is_room T nd) (fun z => nomatch z) hr rfl T.g_is_room T.F_is_room.kp (bd_is_room T) .nil pass0 (pa_cons (pv 1) pa_nil)))) (pss_one (ps_rz rfl tk T.xb_Wrong T.xf_Wrong.1 T.xf_Wrong.2 (ok_Wrong___init__ T) (hr.mono (by decide)) (bd_Wrong___init__ T) (fun _ _ _ _ _ _ _ z => z.elim) rfl T.cg_Wrong pe_int)) pss_nil)
      (pss_cons (ps_fld (pv 0) (pv 1) (by rfl))
      (pss_cons (ps_fld (pv 0) pe_dnewK (by rfl))
      (pss_one (ps_fld (pv 0) pe_dnewK (by rfl))))))
theorem sc_l_whole : FnScope ["_law_thing", "_law_low", "_law_high"] ["_law_thing", "_law_low", "_law_high"] (defScope s_l_whole) := ⟨rfl, rfl, rfl, by decide +kernel, rfl, by decide +kernel, by decide +kernel⟩
theorem bd_l_whole (T : Txt K mg) : Binds K (fdOf K (He.ga K "_law_whole")) ["_law_thing", "_law_low", "_law_high"] [] := T.F_l_whole.bindsN fun _ _ _ _ _ _ us hl => match us, hl with | [_, _, _], _ => rfl
theorem ok_l_whole (T : Txt K mg) (nd : base.NoDigits) : FnX false P w K mg base CX0 1 (He.ga K "_law_whole") (fdOf K (He.ga K "_law_whole")) ["_law_thing", "_law_low", "_law_high"] (sp_l_whole K) := by
  refine okX T.F_l_whole sc_l_whole len_l_whole (fun cdv A outer s H vs Q E hgu0 hr h => ⟨t_l_whole K, PSs.nox ?_, pure_l_whole vs H Q E h⟩)
  exact (pss_one (ps_ret (pe_and (pe_callB call_isi (by rfl) T.b_isinstance (by decide +kernel) (pa_cons (pv 0) (pa_cons (pe_bltn (by rfl) T.b_int (by decide +kernel) rfl) pa_nil))) (pe_and (pe_not (pe_callB call_isi (by rfl) T.b_isinstance (by decide +kernel) (pa_cons (pv 0) (pa_cons (pe_bltn (by rfl) T.b_bool (by decide +kernel) rfl) pa_nil)))) (pe_one (pe_chain uo_le uo_le (pv 1) (pv 0) (pv 2)))))))
theorem sc_l_are_signs : FnScope ["_law_thing", "_law_fewest", "_law_many", "_law_one"] ["_law_thing", "_law_fewest", "_law_many"] (defScope s_l_are_signs) := ⟨rfl, rfl, rfl, by decide +kernel, rfl, by decide +kernel, by decide +kernel⟩
theorem bd_l_are_signs (T : Txt K mg) : Binds K (fdOf K (He.ga K "_law_are_signs")) ["_law_thing", "_law_fewest", "_law_many"] [] := T.F_l_are_signs.bindsN fun _ _ _ _ _ _ us hl => match us, hl with | [_, _, _], _ => rfl
theorem ok_l_are_signs (T : Txt K mg) (nd : base.NoDigits) : FnX false P w K mg base CX0 2 (He.ga K "_law_are_signs") (fdOf K (He.ga K "_law_are_signs")) ["_law_thing", "_law_fewest", "_law_many"] (sp_l_are_signs K) := by
  refine okX T.F_l_are_signs sc_l_are_signs len_l_are_signs (fun cdv A outer s H vs Q E hgu0 hr h => ⟨t_l_are_signs K, PSs.nox ?_, pure_l_are_signs vs H Q E h⟩)
  exact (pss_cons (ps_if (PW.pt (pw_or (pt_not (pt_val (pe_callB call_isi (by rfl) T.b_isinstance (by decide +kernel) (pa_cons (pv 0) (pa_cons (pe_bltn (by rfl) T.b_list (by decide +kernel) rfl) pa_nil))))) (pw_or1 (pt_not (pt_chain uo_le uo_le (pv 1) (pe_callB cr_len (by rfl) T.b_len (by decide +kernel) (pa_cons (pv 0) pa_nil)) (pv 2)))))) (pss_one (ps_ret pe_bl)) pss_nil)
      (pss_one (ps_ret (pe_cmpR (uo_eq hr.units) (pe_lc (own := [("_law_one", 3)]) (g := (gName 3)) (tt := (tNot (tB (tCall (sp_l_whole K) [] E0 (tCons (tVar 3) (tCons (tC (.int 0)) (tCons (tC (.int 999)) tNil))))))) rfl sc_l_are_signs.nd (pi_list (pv 0)) (blkOk_by (own := [("_law_one", 3)]) (N := ["_law_thing", "_law_fewest", "_law_many", "_law_one"]) (sc := defScope s_l_are_signs) (by decide +kernel)) (fun _ _ _ _ _ => (pg_name (i := 3) sc_l_are_signs.nd rfl (by first | exact Or.inl rfl | exact Or.inr rfl))) (fun _ _ _ _ _ => (pts_one (pt_not (pt_val (pe_callX (ok_l_whole T nd) (fun z => nomatch z) hr rfl T.g_l_whole T.F_l_whole.kp (bd_l_whole T) .nil pass0 (pa_cons (pv 3) (pa_cons pe_int (pa_cons pe_int pa_nil)))))))) (fun _ _ _ _ _ => (pv 3))) (pe_lst pa_nil) (nomark _)))))
theorem sc_l_sum : FnScope ["_law_signs_here", "_law_found", "_law_times", "_law_sign"] ["_law_signs_here"] (defScope s_l_sum) := ⟨rfl, rfl, rfl, by decide +kernel, rfl, by decide +kernel, by decide +kernel⟩
theorem bd_l_sum (T : Txt K mg) : Binds K (fdOf K (He.ga K "_law_sum")) ["_law_signs_here"] [] := T.F_l_sum.bindsN fun _ _ _ _ _ _ us hl => match us, hl with | [_], _ => rfl
theorem ok_l_sum (T : Txt K mg) (nd : base.NoDigits) : FnX false P w K mg base CX0 1 (He.ga K "_law_sum") (fdOf K (He.ga K "_law_sum")) ["_law_signs_here"] (sp_l_sum K) := by
  refine okX T.F_l_sum sc_l_sum len_l_sum (fun cdv A outer s H vs Q E hgu0 hr h => ⟨t_l_sum K, PSs.nox ?_, pure_l_sum vs H Q E h⟩)
  exact (pss_cons (ps_set (i := 1) sc_l_sum.nd rfl (by first | exact Or.inl rfl | exact Or.inr rfl) pe_int)
      (pss_cons (ps_set (i := 2) sc_l_sum.nd rfl (by first | exact Or.inl rfl | exact Or.inr rfl) pe_int)
      (pss_cons (ps_for PassesOwn.never rfl (pi_list (pv 0)) (pg_name (i := 3) sc_l_sum.nd rfl (by first | exact Or.inl rfl | exact Or.inr rfl)) (pss_cons (ps_aug (i := 1) sc_l_sum.nd rfl (by first | exact Or.inl rfl | exact Or.inr rfl) (pe_op uo_mul (pe_op uo_add (pv 3) pe_int) (pv 2)) (ip_of io_add))
      (pss_one (ps_aug (i := 2) sc_l_sum.nd rfl (by first | exact Or.inl rfl | exact Or.inr rfl) pe_int (ip_of io_mul)))))
      (pss_one (ps_ret (pv 1))))))
theorem sc_l_laid : FnScope ["_law_model", "_law_room", "_law_signs_here", "_law_seal"] ["_law_model", "_law_room", "_law_signs_here"] (defScope s_l_laid) := ⟨rfl, rfl, rfl, by decide +kernel, rfl, by decide +kernel, by decide +kernel⟩
theorem bd_l_laid (T : Txt K mg) : Binds K (fdOf K (He.ga K "_law_laid")) ["_law_model", "_law_room", "_law_signs_here"] [] := T.F_l_laid.bindsN fun _ _ _ _ _ _ us hl => match us, hl with | [_, _, _], _ => rfl
theorem ok_l_laid (T : Txt K mg) (nd : base.NoDigits) : FnX false P w K mg base CX0 3 (He.ga K "_law_laid") (fdOf K (He.ga K "_law_laid")) ["_law_model", "_law_room", "_law_signs_here"] (sp_l_laid K) := by
  refine okX T.F_l_laid sc_l_laid len_l_laid (fun cdv A outer s H vs Q E hgu0 hr h => ⟨t_l_laid K, PSs.nox ?_, pure_l_laid vs H Q E h⟩)
  exact (pss_cons (ps_if (pt_not (pt_val (pe_callX (ok_l_are_signs T nd) (fun z => nomatch z) hr rfl T.g_l_are_signs T.F_l_are_signs.kp (bd_l_are_signs T) .nil pass0 (pa_cons (pv 2) (pa_cons pe_int (pa_cons pe_int pa_nil)))))) (pss_one (ps_ret (pe_tup (pa_cons pe_str (pa_cons pe_int pa_nil))))) pss_nil)
      (pss_cons (ps_set (i := 3) sc_l_laid.nd rfl (by first | exact Or.inl rfl | exact Or.inr rfl) (pe_callX (ok_l_sum T nd) (fun z => nomatch z) (hr.mono (by decide)) rfl T.g_l_sum T.F_l_sum.kp (bd_l_sum T) .nil pass0 (pa_cons (pv 2) pa_nil)))
      (pss_cons (ps_if (PW.pt (pw_and (pt_cmpR (uo_notinU hr.u65) (pv 3) (pv 0) (by rfl)) (pw_and1 (pt_cmpR uo_ge (pe_callB cr_len (by rfl) T.b_len (by decide +kernel) (pa_cons (pv 0) pa_nil)) (pv 1) (nomark _))))) (pss_one (ps_ret (pe_tup (pa_cons pe_str (pa_cons (pv 1) pa_nil))))) pss_nil)
      (pss_cons (ps_if (pt_cmpR (uo_notinU hr.u65) (pv 3) (pv 0) (by rfl)) (pss_one (ps_asg (pe_lst (pa_cons pe_int (pa_cons pe_non pa_nil))) (pg_sub (pv 0) (pv 3) (set_any hr.u1)))) pss_nil)
      (pss_cons (ps_asg (pe_lst (pa_cons (pe_op uo_add (pe_ix ix_any (pe_ix (ix_dk hr.u1) (pv 0) (pv 3) (fun _ _ => rfl)) pe_int (fun _ _ => rfl)) pe_int) (pa_cons (pe_callTy cr_list (by rfl) T.b_list (by decide +kernel) (pa_cons (pv 2) pa_nil)) pa_nil))) (pg_sub (pv 0) (pv 3) (set_any hr.u1)))
      (pss_one (ps_ret (pe_tup (pa_cons pe_str (pa_cons (pv 3) pa_nil))))))))))
theorem sc_l_back : FnScope ["_law_number", "_law_rest", "_law_found"] ["_law_number"] (defScope s_l_back) := ⟨rfl, rfl, rfl, by decide +kernel, rfl, by decide +kernel, by decide +kernel⟩
theorem bd_l_back (T : Txt K mg) : Binds K (fdOf K (He.ga K "_law_back")) ["_law_number"] [] := T.F_l_back.bindsN fun _ _ _ _ _ _ us hl => match us, hl with | [_], _ => rfl
theorem ok_l_back (T : Txt K mg) (nd : base.NoDigits) : FnX false P w K mg base CX0 1 (He.ga K "_law_back") (fdOf K (He.ga K "_law_back")) ["_law_number"] (sp_l_back K) := by
  refine okX T.F_l_back sc_l_back len_l_back (fun cdv A outer s H vs Q E hgu0 hr h => ⟨t_l_back K, PSs.nox ?_, pure_l_back vs H Q E h⟩)
  exact (pss_cons (ps_par (by rfl) sc_l_back.nd rfl rfl (by decide) rfl rfl (pa_cons (pv 0) (pa_cons (pe_lst pa_nil) pa_nil)) (by rfl))
      (pss_cons (ps_while PassesOwn.never (PW.pt (pw_and (pt_cmpR uo_gt (pv 1) pe_int (nomark _)) (pw_and1 (pt_cmpR uo_lt (pe_callB cr_len (by rfl) T.b_len (by decide +kernel) (pa_cons (pv 2) pa_nil)) pe_int (nomark _))))) (pss_cons (ps_expr (pe_bm PySem.F.plainAttrs_list PySem.F.slot_list_append PySem.F.type_list_append mt_append (pv 2) (pa_cons (pe_op uo_sub (pe_op uo_mod (pv 1) pe_int) pe_int) pa_nil)))
      (pss_one (ps_set (i := 1) sc_l_back.nd rfl (by first | exact Or.inl rfl | exact Or.inr rfl) (pe_op uo_div (pv 1) pe_int)))))
      (pss_cons (ps_if (PW.pt (pw_or (pt_cmpR (uo_eq hr.units) (pv 2) (pe_lst pa_nil) (nomark _)) (pw_or (pt_cmpR uo_gt (pe_callB cr_len (by rfl) T.b_len (by decide +kernel) (pa_cons (pv 2) pa_nil)) pe_int (nomark _)) (pw_or1 (pt_cmpR (uo_inU hr.u65) (pe_un un_neg pe_int) (pv 2) (by rfl)))))) (pss_one (ps_ret pe_non)) pss_nil)
      (pss_one (ps_ret (pv 2))))))
theorem sc_l_is_seal : FnScope ["_law_thing"] ["_law_thing"] (defScope s_l_is_seal) := ⟨rfl, rfl, rfl, by decide +kernel, rfl, by decide +kernel, by decide +kernel⟩
theorem bd_l_is_seal (T : Txt K mg) : Binds K (fdOf K (He.ga K "_law_is_seal")) ["_law_thing"] [] := T.F_l_is_seal.bindsN fun _ _ _ _ _ _ us hl => match us, hl with | [_], _ => rfl
theorem ok_l_is_seal (T : Txt K mg) (nd : base.NoDigits) : FnX false P w K mg base CX0 2 (He.ga K "_law_is_seal") (fdOf K (He.ga K "_law_is_seal")) ["_law_thing"] (sp_l_is_seal K) := by
  refine okX T.F_l_is_seal sc_l_is_seal len_l_is_seal (fun cdv A outer s H vs Q E hgu0 hr h => ⟨t_l_is_seal K, PSs.nox ?_, pure_l_is_seal vs H Q E h⟩)
  exact (pss_one (ps_ret (pe_and (pe_callX (ok_l_whole T nd) (fun z => nomatch z) hr rfl T.g_l_whole T.F_l_whole.kp (bd_l_whole T) .nil pass0 (pa_cons (pv 0) (pa_cons pe_int (pa_cons (pe_op uo_pow pe_int pe_int) pa_nil)))) (pe_one (pe_cmpR op_notN' (pe_callX (ok_l_back T nd) (fun z => nomatch z) hr rfl T.g_l_back T.F_l_back.kp (bd_l_back T) .nil pass0 (pa_cons (pv 0) pa_nil)) pe_non (nomark _))))))
theorem sc_l_sound : FnScope ["_law_model", "_law_seal", "_law_body_here"] ["_law_model", "_law_seal"] (defScope s_l_sound) := ⟨rfl, rfl, rfl, by decide +kernel, rfl, by decide +kernel, by decide +kernel⟩
theorem bd_l_sound (T : Txt K mg) : Binds K (fdOf K (He.ga K "_law_sound")) ["_law_model", "_law_seal"] [] := T.F_l_sound.bindsN fun _ _ _ _ _ _ us hl => match us, hl with | [_, _], _ => rfl
theorem ok_l_sound (T : Txt K mg) (nd : base.NoDigits) : FnX false P w K mg base CX0 2 (He.ga K "_law_sound") (fdOf K (He.ga K "_law_sound")) ["_law_model", "_law_seal"] (sp_l_sound K) := by
  refine okX T.F_l_sound sc_l_sound len_l_sound (fun cdv A outer s H vs Q E hgu0 hr h => ⟨t_l_sound K, PSs.nox ?_, pure_l_sound vs H Q E h⟩)
  exact (pss_cons (ps_set (i := 2) sc_l_sound.nd rfl (by first | exact Or.inl rfl | exact Or.inr rfl) (pe_ix ix_any (pe_ix (ix_dk hr.u1) (pv 0) (pv 1) (fun _ _ => rfl)) pe_int (fun _ _ => rfl)))
      (pss_one (ps_ret (pe_and (pe_cmpR op_notN' (pv 2) pe_non (nomark _)) (pe_and (pe_cmpR (uo_ne hr.units) (pv 2) (pe_lst pa_nil) (nomark _)) (pe_one (pe_cmpR (uo_eq hr.units) (pe_callX (ok_l_sum T nd) (fun z => nomatch z) hr rfl T.g_l_sum T.F_l_sum.kp (bd_l_sum T) .nil pass0 (pa_cons (pv 2) pa_nil)) (pv 1) (nomark _))))))))
theorem sc_l_due : FnScope ["_law_model", "_law_room", "_law_way", "_law_seal", "_law_signs_here"] ["_law_model", "_law_room", "_law_way", "_law_seal", "_law_signs_here"] (defScope s_l_due) := ⟨rfl, rfl, rfl, by decide +kernel, rfl, by decide +kernel, by decide +kernel⟩
theorem bd_l_due (T : Txt K mg) : Binds K (fdOf K (He.ga K "_law_due")) ["_law_model", "_law_room", "_law_way", "_law_seal", "_law_signs_here"] [] := T.F_l_due.bindsN fun _ _ _ _ _ _ us hl => match us, hl with | [_, _, _, _, _], _ => rfl
theorem ok_l_due (T : Txt K mg) (nd : base.NoDigits) : FnX false P w K mg base CX0 4 (He.ga K "_law_due") (fdOf K (He.ga K "_law_due")) ["_law_model", "_law_room", "_law_way", "_law_seal", "_law_signs_here"] (sp_l_due K) := by
  refine okX T.F_l_due sc_l_due len_l_due (fun cdv A outer s H vs Q E hgu0 hr h => ⟨t_l_due K, PSs.nox ?_, pure_l_due vs H Q E h⟩)
  exact (pss_cons (ps_if (pt_cmpR (uo_eq hr.units) (pv 2) pe_int (nomark _)) (pss_one (ps_ret (pe_callX (ok_l_laid T nd) (fun z => nomatch z) hr rfl T.g_l_laid T.F_l_laid.kp (bd_l_laid T) .nil pass0 (pa_cons (pv 0) (pa_cons (pv 1) (pa_cons (pv 4) pa_nil)))))) pss_nil)
      (pss_cons (ps_if (pt_not (pt_val (pe_callX (ok_l_is_seal T nd) (fun z => nomatch z) (hr.mono (by decide)) rfl T.g_l_is_seal T.F_l_is_seal.kp (bd_l_is_seal T) .nil pass0 (pa_cons (pv 3) pa_nil)))) (pss_one (ps_ret (pe_tup (pa_cons pe_str (pa_cons pe_int pa_nil))))) pss_nil)
      (pss_cons (ps_if (PW.pt (pw_and (pt_cmpR (uo_inU hr.u65) (pv 2) (pe_tup (pa_cons pe_int (pa_cons pe_int pa_nil))) (by rfl)) (pw_and1 (pt_not (pt_val (pe_callX (ok_l_are_signs T nd) (fun z => nomatch z) (hr.mono (by decide)) rfl T.g_l_are_signs T.F_l_are_signs.kp (bd_l_are_signs T) .nil pass0 (pa_cons (pv 4) (pa_cons (pe_op uo_div (pv 2) pe_int) (pa_cons pe_int pa_nil))))))))) (pss_one (ps_ret (pe_tup (pa_cons pe_str (pa_cons pe_int pa_nil))))) pss_nil)
      (pss_cons (ps_if (pt_cmpR (uo_notinU hr.u65) (pv 3) (pv 0) (by rfl)) (pss_one (ps_ret (pe_tup (pa_cons pe_str (pa_cons (pv 3) pa_nil))))) pss_nil)
      (pss_cons (ps_if (pt_cmpR (uo_inU hr.u65) (pv 2) (pe_tup (pa_cons pe_int (pa_cons pe_int pa_nil))) (by rfl)) (pss_cons (ps_augS (pe_ix (ix_dk hr.u1) (pv 0) (pv 3) (fun _ _ => rfl)) pe_int (get_any hr.u1) (pe_op uo_sub pe_int (pe_op uo_mul pe_int (pv 2))) (ip_of io_add) (set_any hr.u1))
      (pss_cons (ps_if (pt_cmpR (uo_eq hr.units) (pe_ix ix_any (pe_ix (ix_dk hr.u1) (pv 0) (pv 3) (fun _ _ => rfl)) pe_int (fun _ _ => rfl)) pe_int (nomark _)) (pss_one (ps_expr (pe_dpop1 (pv 0) (pv 3) ⟨by rfl, by rfl, by rfl, by rfl⟩))) pss_nil)
      (pss_one (ps_ret (pe_tup (pa_cons pe_str (pa_cons (pe_ix ix_any (pe_lst (pa_cons pe_non (pa_cons (pe_cmpR (uo_notinU hr.u65) (pv 3) (pv 0) (by rfl)) pa_nil))) (pe_op uo_sub (pv 2) pe_int) (fun _ _ => rfl)) pa_nil))))))) pss_nil)
      (pss_cons (ps_if (PW.pt (pw_and (pt_cmpR (uo_eq hr.units) (pv 2) pe_int (nomark _)) (pw_and1 (pt_cmpR (uo_ne hr.units) (pe_callX (ok_l_sum T nd) (fun z => nomatch z) (hr.mono (by decide)) rfl T.g_l_sum T.F_l_sum.kp (bd_l_sum T) .nil pass0 (pa_cons (pv 4) pa_nil)) (pv 3) (nomark _))))) (pss_one (ps_ret (pe_tup (pa_cons pe_str (pa_cons (pv 3) pa_nil))))) pss_nil)
      (pss_cons (ps_if (pt_cmpR uo_lt (pv 2) pe_int (nomark _)) (pss_cons (ps_asg (pe_ix ix_any (pe_lst (pa_cons (pe_callTy cr_list (by rfl) T.b_list (by decide +kernel) (pa_cons (pv 4) pa_nil)) (pa_cons pe_non (pa_cons (pe_callTy cr_list (by rfl) T.b_list (by decide +kernel) (pa_cons (pv 4) pa_nil)) pa_nil)))) (pe_op uo_sub (pv 2) pe_int) (fun _ _ => rfl)) (pg_sub (pe_ix (ix_dk hr.u1) (pv 0) (pv 3) (fun _ _ => rfl)) pe_int (set_any hr.u1)))
      (pss_one (ps_ret (pe_tup (pa_cons pe_str (pa_cons pe_non pa_nil)))))) pss_nil)
      (pss_cons (ps_if (pt_cmpR (uo_eq hr.units) (pv 2) pe_int (nomark _)) (pss_one (ps_ret (pe_tup (pa_cons pe_str (pa_cons (pe_ix ix_any (pe_ix (ix_dk hr.u1) (pv 0) (pv 3) (fun _ _ => rfl)) pe_int (fun _ _ => rfl)) pa_nil))))) pss_nil)
      (pss_cons (ps_if (pt_cmpR (uo_eq hr.units) (pv 2) pe_int (nomark _)) (pss_one (ps_ret (pe_tup (pa_cons pe_str (pa_cons (pe_callX (ok_l_sound T nd) (fun z => nomatch z) (hr.mono (by decide)) rfl T.g_l_sound T.F_l_sound.kp (bd_l_sound T) .nil pass0 (pa_cons (pv 0) (pa_cons (pv 3) pa_nil))) pa_nil))))) pss_nil)
      (pss_cons (ps_if (pt_val (pe_callX (ok_l_sound T nd) (fun z => nomatch z) (hr.mono (by decide)) rfl T.g_l_sound T.F_l_sound.kp (bd_l_sound T) .nil pass0 (pa_cons (pv 0) (pa_cons (pv 3) pa_nil)))) (pss_one (ps_ret (pe_tup (pa_cons pe_str (pa_cons (pe_callX (ok_l_back T nd) (fun z => nomatch z) (hr.mono (by decide)) rfl T.g_l_back T.F_l_back.kp (bd_l_back T) .nil pass0 (pa_cons (pv 3) pa_nil)) pa_nil))))) pss_nil)
      (pss_one (ps_ret (pe_tup (pa_cons pe_str (pa_cons (pv 3) pa_nil)))))))))))))))
theorem sc_is_sign : FnScope ["thing"] ["thing"] (defScope s_is_sign) := ⟨rfl, rfl, rfl, by decide +kernel, rfl, by decide +kernel, by decide +kernel⟩
theorem bd_is_sign (T : Txt K mg) : Binds K (fdOf K (He.ga K "is_sign")) ["thing"] [] := T.F_is_sign.bindsN fun _ _ _ _ _ _ us hl => match us, hl with | [_], _ => rfl
theorem ok_is_sign (T : Txt K mg) (nd : base.NoDigits) : FnX false P w K mg base CX0 2 (He.ga K "is_sign") (fdOf K (He.ga K "is_sign")) ["thing"] (sp_is_sign K) := by
  refine okX T.F_is_sign sc_is_sign len_is_sign (fun cdv A outer s H vs Q E hgu0 hr h => ⟨t_is_sign K, PSs.nox ?_, pure_is_sign vs H Q E h⟩)
  exact (pss_one (ps_ret (pe_and (pe_callX (ok_is_whole T nd) (fun z => nomatch z) hr rfl T.g_is_whole T.F_is_whole.kp (bd_is_whole T) .nil pass0 (pa_cons (pv 0) pa_nil)) (pe_one (pe_chain uo_le uo_le pe_int (pv 0) (pe_globI rfl T.c_MOST_SIGN))))))
theorem sc_are_signs : FnScope ["thing", "fewest", "most", "sign"] ["thing", "fewest", "most"] (defScope s_are_signs) := ⟨rfl, rfl, rfl, by decide +kernel, rfl, by decide +kernel, by decide +kernel⟩
theorem bd_are_signs (T : Txt K mg) : Binds K (fdOf K (He.ga K "are_signs")) ["thing", "fewest", "most"] [] := T.F_are_signs.bindsN fun _ _ _ _ _ _ us hl => match us, hl with | [_, _, _], _ => rfl
theorem ok_are_signs (T : Txt K mg) (nd : base.NoDigits) : FnX false P w K mg base CX0 3 (He.ga K "are_signs") (fdOf K (He.ga K "are_signs")) ["thing", "fewest", "most"] (sp_are_signs K) := by
  refine okX T.F_are_signs sc_are_signs len_are_signs (fun cdv A outer s H vs Q E hgu0 hr h => ⟨t_are_signs K, PSs.nox ?_, pure_are_signs vs H Q E h⟩)
  exact (pss_cons (ps_if (PW.pt (pw_or (pt_not (pt_val (pe_callB call_isi (by rfl) T.b_isinstance (by decide +kernel) (pa_cons (pv 0) (pa_cons (pe_bltn (by rfl) T.b_list (by decide +kernel) rfl) pa_nil))))) (pw_or1 (pt_not (pt_chain uo_le uo_le (pv 1) (pe_callB cr_len (by rfl) T.b_len (by decide +kernel) (pa_cons (pv 0) pa_nil)) (pv 2)))))) (pss_one (ps_ret pe_bl)) pss_nil)
      (pss_cons (ps_for PassesOwn.never rfl (pi_list (pv 0)) (pg_name (i := 3) sc_are_signs.nd rfl (by first | exact Or.inl rfl | exact Or.inr rfl)) (pss_one (ps_if (pt_not (pt_val (pe_callX (ok_is_sign T nd) (fun z => nomatch z) hr rfl T.g_is_sign T.F_is_sign.kp (bd_is_sign T) .nil pass0 (pa_cons (pv 3) pa_nil)))) (pss_one (ps_ret pe_bl)) pss_nil)))
      (pss_one (ps_ret pe_bl))))
theorem sc_seal_of : FnScope ["signs", "found", "sign"] ["signs"] (defScope s_seal_of) := ⟨rfl, rfl, rfl, by decide +kernel, rfl, by decide +kernel, by decide +kernel⟩
theorem bd_seal_of (T : Txt K mg) : Binds K (fdOf K (He.ga K "seal_of")) ["signs"] [] := T.F_seal_of.bindsN fun _ _ _ _ _ _ us hl => match us, hl with | [_], _ => rfl
theorem ok_seal_of (T : Txt K mg) (nd : base.NoDigits) : FnX false P w K mg base CX0 4 (He.ga K "seal_of") (fdOf K (He.ga K "seal_of")) ["signs"] (sp_seal_of K) := by
  refine okX T.F_seal_of sc_seal_of len_seal_of (fun cdv A outer s H vs Q E hgu0 hr h => ⟨t_seal_of K, PSs.nox ?_, pure_seal_of vs H Q E h⟩)
  exact (pss_cons (ps_if (pt_not (pt_val (pe_callX (ok_are_signs T nd) (fun z => nomatch z) hr rfl T.g_are_signs T.F_are_signs.kp (bd_are_signs T) .nil pass0 (pa_cons (pv 0) (pa_cons pe_int (pa_cons (pe_globI rfl T.c_MOST_PIECE) pa_nil)))))) (pss_one ps_never) pss_nil)
      (pss_cons (ps_set (i := 1) sc_seal_of.nd rfl (by first | exact Or.inl rfl | exact Or.inr rfl) pe_int)
      (pss_cons (ps_for PassesOwn.never rfl (pi_reversed (by rfl) T.b_reversed (pa_cons (pv 0) pa_nil)) (pg_name (i := 2) sc_seal_of.nd rfl (by first | exact Or.inl rfl | exact Or.inr rfl)) (pss_one (ps_set (i := 1) sc_seal_of.nd rfl (by first | exact Or.inl rfl | exact Or.inr rfl) (pe_op uo_add (pe_op uo_add (pe_op uo_mul (pv 1) (pe_globI rfl T.c_BASE)) (pv 2)) pe_int))))
      (pss_one (ps_ret (pv 1))))))
theorem sc_Shelf_free : FnScope ["self"] ["self"] (defScope s_Shelf_free) := ⟨rfl, rfl, rfl, by decide +kernel, rfl, by decide +kernel, by decide +kernel⟩
theorem bd_Shelf_free (T : Txt K mg) : Binds K (fdOf K (mA K "Shelf" "free")) ["self"] [] := T.F_Shelf_free.bindsN fun _ _ _ _ _ _ us hl => match us, hl with | [_], _ => rfl
theorem ok_Shelf_free (T : Txt K mg) (nd : base.NoDigits) : FnX false P w K mg base CX0 1 (mA K "Shelf" "free") (fdOf K (mA K "Shelf" "free")) ["self"] (sp_Shelf_free K) := by
  refine okX T.F_Shelf_free sc_Shelf_free len_Shelf_free (fun cdv A outer s H vs Q E hgu0 hr h => ⟨t_Shelf_free K, PSs.nox ?_, pure_Shelf_free T.c vs H Q E h⟩)
  exact (pss_one (ps_ret (pe_op uo_sub (pe_fld (pv 0) rfl) (pe_callB cr_len (by rfl) T.b_len (by decide +kernel) (pa_cons (pe_fld (pv 0) rfl) pa_nil)))))
theorem sc_Shelf_lay : FnScope ["self", "signs", "seal"] ["self", "signs"] (defScope s_Shelf_lay) := ⟨rfl, rfl, rfl, by decide +kernel, rfl, by decide +kernel, by decide +kernel⟩
theorem bd_Shelf_lay (T : Txt K mg) : Binds K (fdOf K (mA K "Shelf" "lay")) ["self", "signs"] [] := T.F_Shelf_lay.bindsN fun _ _ _ _ _ _ us hl => match us, hl with | [_, _], _ => rfl
theorem ok_Shelf_lay (T : Txt K mg) (nd : base.NoDigits) : FnX false P w K mg base (L2.CX P w) 5 (mA K "Shelf" "lay") (fdOf K (mA K "Shelf" "lay")) ["self", "signs"] (sp_Shelf_lay K) := by
  refine okW T.F_Shelf_lay sc_Shelf_lay len_Shelf_lay (fun cdv A outer s H vs Q E hgu0 hr h tk pw => ⟨t_Shelf_lay K (WT E), ?_, pure_Shelf_lay T.c vs H Q E h⟩)
  exact (pss_cons (ps_if (pt_not (pt_val (pe_callX (ok_are_signs T nd) (fun z => nomatch z) (hr.mono (by decide)) rfl T.g_are_signs T.F_are_signs.kp (bd_are_signs T) .nil pass0 (pa_cons (pv 1) (pa_cons pe_int (pa_cons (pe_globI rfl T.c_MOST_PIECE) pa_nil)))))) (pss_one (ps_rz rfl tk T.xb_Wrong T.xf_Wrong.1 T.xf_Wrong.2 (ok_Wrong___init__ T) (hr.mono (by decide)) (bd_Wrong___init__ T) (fun _ _ _ _ _ _ _ z => z.elim) rfl T.cg_Wrong pe_int)) pss_nil)
      (pss_cons (ps_set (i := 2) sc_Shelf_lay.nd rfl (by first | exact Or.inl rfl | exact Or.inr rfl) (pe_callX (ok_seal_of T nd) (fun z => nomatch z) hr rfl T.g_seal_of T.F_seal_of.kp (bd_seal_of T) .nil pass0 (pa_cons (pv 1) pa_nil)))
      (pss_cons (ps_if (pt_cmpR (uo_notinU hr.u65) (pv 2) (pe_fld (pv 0) rfl) (by rfl)) (pss_cons (ps_if (pt_cmpR (uo_eq hr.units) (pe_methW0 (pv 0) T.cl_Shelf T.me_Shelf_free (ok_Shelf_free T nd) (fun z => nomatch z) (hr.mono (by decide)) (bd_Shelf_free T) .nil (fun _ => pas0)) pe_int (nomark _)) (pss_one (ps_rz rfl tk T.xb_NoRoom T.xf_NoRoom.1 T.xf_NoRoom.2 (ok_NoRoom___init__ T) (hr.mono (by decide)) (bd_NoRoom___init__ T) (fun _ _ _ _ _ _ _ z => z.elim) rfl T.cg_NoRoom (pe_fld (pv 0) rfl))) pss_nil)
      (pss_one (ps_asg pe_int (pg_sub (pe_fld (pv 0) rfl) (pv 2) (set_any hr.u1))))) pss_nil)
      (pss_cons (ps_augS (pe_fld (pv 0) rfl) (pv 2) (get_any hr.u1) pe_int (ip_of io_add) (set_any hr.u1))
      (pss_cons (ps_asg (pe_callTy cr_list (by rfl) T.b_list (by decide +kernel) (pa_cons (pv 1) pa_nil)) (pg_sub (pe_fld (pv 0) rfl) (pv 2) (set_any hr.u1)))
      (pss_one (ps_ret (pv 2))))))))
theorem sc_l_body : FnScope ["_law_bag_here", "_law_pool_here", "_law_signs_here", "_law_other", "_law_more"] ["_law_bag_here", "_law_pool_here", "_law_signs_here"] (defScope s_l_body) := ⟨rfl, rfl, rfl, by decide +kernel, rfl, by decide +kernel, by decide +kernel⟩
theorem bd_l_body (T : Txt K mg) : Binds K (fdOf K (He.ga K "_law_body")) ["_law_bag_here", "_law_pool_here", "_law_signs_here"] [] := T.F_l_body.bindsN fun _ _ _ _ _ _ us hl => match us, hl with | [_, _, _], _ => rfl
theorem ok_l_body (T : Txt K mg) (nd : base.NoDigits) : FnX false P w K mg base CX0 2 (He.ga K "_law_body") (fdOf K (He.ga K "_law_body")) ["_law_bag_here", "_law_pool_here", "_law_signs_here"] (sp_l_body K) := by
  refine okX T.F_l_body sc_l_body len_l_body (fun cdv A outer s H vs Q E hgu0 hr h => ⟨t_l_body K, PSs.nox ?_, pure_l_body vs H Q E h⟩)
  exact (pss_cons (ps_set (i := 3) sc_l_body.nd rfl (by first | exact Or.inl rfl | exact Or.inr rfl) (pe_callTy cr_list (by rfl) T.b_list (by decide +kernel) (pa_cons (pv 2) pa_nil)))
      (pss_cons (ps_asg (pe_callX (ok_l_take T nd) (fun z => nomatch z) hr rfl T.g_l_take T.F_l_take.kp (bd_l_take T) .nil pass0 (pa_cons (pv 0) (pa_cons pe_int pa_nil))) (pg_sub (pv 3) (pe_callX (ok_l_take T nd) (fun z => nomatch z) hr rfl T.g_l_take T.F_l_take.kp (bd_l_take T) .nil pass0 (pa_cons (pv 0) (pa_cons (pe_callB cr_len (by rfl) T.b_len (by decide +kernel) (pa_cons (pv 3) pa_nil)) pa_nil))) (set_any hr.u1)))
      (pss_cons (ps_set (i := 4) sc_l_body.nd rfl (by first | exact Or.inl rfl | exact Or.inr rfl) (pe_slice sl_any (pe_op uo_add (pv 2) (pe_lst (pa_cons (pe_callX (ok_l_take T nd) (fun z => nomatch z) hr rfl T.g_l_take T.F_l_take.kp (bd_l_take T) .nil pass0 (pa_cons (pv 0) (pa_cons pe_int pa_nil))) pa_nil))) po_none (po_some pe_int)))
      (pss_one (ps_ret (pe_ix ix_any (pe_lst (pa_cons (pe_lst pa_nil) (pa_cons (pe_callTy cr_list (by rfl) T.b_list (by decide +kernel) (pa_cons (pv 2) pa_nil)) (pa_cons (pv 3) (pa_cons (pv 4) (pa_cons (pe_slice sl_any (pv 2) po_none (po_some (pe_un un_neg pe_int))) (pa_cons (pe_callTy cr_list (by rfl) T.b_list (by decide +kernel) (pa_cons (pe_ix ix_any (pv 1) (pe_callX (ok_l_take T nd) (fun z => nomatch z) hr rfl T.g_l_take T.F_l_take.kp (bd_l_take T) .nil pass0 (pa_cons (pv 0) (pa_cons (pe_callB cr_len (by rfl) T.b_len (by decide +kernel) (pa_cons (pv 1) pa_nil)) pa_nil))) (fun _ _ => rfl)) pa_nil)) pa_nil))))))) (pe_callX (ok_l_take T nd) (fun z => nomatch z) hr rfl T.g_l_take T.F_l_take.kp (bd_l_take T) .nil pass0 (pa_cons (pv 0) (pa_cons pe_int pa_nil))) (fun _ _ => rfl)))))))
theorem sc_l_alike : FnScope ["_law_found", "_law_due_here"] ["_law_found", "_law_due_here"] (defScope s_l_alike) := ⟨rfl, rfl, rfl, by decide +kernel, rfl, by decide +kernel, by decide +kernel⟩
theorem bd_l_alike (T : Txt K mg) : Binds K (fdOf K (He.ga K "_law_alike")) ["_law_found", "_law_due_here"] [] := T.F_l_alike.bindsN fun _ _ _ _ _ _ us hl => match us, hl with | [_, _], _ => rfl
theorem ok_l_alike (T : Txt K mg) (nd : base.NoDigits) : FnX true P w K mg base CX0 1 (He.ga K "_law_alike") (fdOf K (He.ga K "_law_alike")) ["_law_found", "_law_due_here"] (sp_l_alike K) := by
  refine okX T.F_l_alike sc_l_alike len_l_alike (fun cdv A outer s H vs Q E hgu0 hr h => ⟨t_l_alike K, PSs.nox ?_, pure_l_alike vs H Q E h⟩)
  have hgu : (A.deeper (envOfC "_law_alike" (defScope s_l_alike) s.heap.objs.size (He.ga K "_law_alike") cdv)).guards = some [] := hgu0 rfl
  exact (pss_one (ps_ret (pe_and (pe_cmpR (uo_eq hr.units) (pv 0) (pv 1) (nomark _)) (pe_one (pe_cmpR (uo_eq hr.units) (pe_callB (cr_repr hgu hr.units) (by rfl) T.b_repr (by decide +kernel) (pa_cons (pv 0) pa_nil)) (pe_callB (cr_repr hgu hr.units) (by rfl) T.b_repr (by decide +kernel) (pa_cons (pv 1) pa_nil)) (nomark _))))))
theorem sc_is_seal : FnScope ["thing", "rest", "turn"] ["thing"] (defScope s_is_seal) := ⟨rfl, rfl, rfl, by decide +kernel, rfl, by decide +kernel, by decide +kernel⟩
theorem bd_is_seal (T : Txt K mg) : Binds K (fdOf K (He.ga K "is_seal")) ["thing"] [] := T.F_is_seal.bindsN fun _ _ _ _ _ _ us hl => match us, hl with | [_], _ => rfl
theorem ok_is_seal (T : Txt K mg) (nd : base.NoDigits) : FnX false P w K mg base CX0 2 (He.ga K "is_seal") (fdOf K (He.ga K "is_seal")) ["thing"] (sp_is_seal K) := by
  refine okX T.F_is_seal sc_is_seal len_is_seal (fun cdv A outer s H vs Q E hgu0 hr h => ⟨t_is_seal K, PSs.nox ?_, pure_is_seal vs H Q E h⟩)
  exact (pss_cons (ps_if (PW.pt (pw_or (pt_not (pt_val (pe_callX (ok_is_whole T nd) (fun z => nomatch z) hr rfl T.g_is_whole T.F_is_whole.kp (bd_is_whole T) .nil pass0 (pa_cons (pv 0) pa_nil)))) (pw_or1 (pt_cmpR uo_lt (pv 0) pe_int (nomark _))))) (pss_one (ps_ret pe_bl)) pss_nil)
      (pss_cons (ps_set (i := 1) sc_is_seal.nd rfl (by first | exact Or.inl rfl | exact Or.inr rfl) (pv 0))
      (pss_cons (ps_for PassesOwn.never rfl (pi_range1 (by rfl) T.b_range (pa_cons (pe_globI rfl T.c_MOST_PIECE) pa_nil)) (pg_name (i := 2) sc_is_seal.nd rfl (by first | exact Or.inl rfl | exact Or.inr rfl)) (pss_cons (ps_if (pt_cmpR (uo_eq hr.units) (pe_op uo_mod (pv 1) (pe_globI rfl T.c_BASE)) pe_int (nomark _)) (pss_one (ps_ret pe_bl)) pss_nil)
      (pss_cons (ps_aug (i := 1) sc_is_seal.nd rfl (by first | exact Or.inl rfl | exact Or.inr rfl) (pe_globI rfl T.c_BASE) (ip_of io_div))
      (pss_one (ps_if (pt_cmpR (uo_eq hr.units) (pv 1) pe_int (nomark _)) (pss_one (ps_ret pe_bl)) pss_nil)))))
      (pss_one (ps_ret pe_bl)))))
theorem sc_Shelf_need_kept : FnScope ["self", "seal"] ["self", "seal"] (defScope s_Shelf_need_kept) := ⟨rfl, rfl, rfl, by decide +kernel, rfl, by decide +kernel, by decide +kernel⟩
theorem bd_Shelf_need_kept (T : Txt K mg) : Binds K (fdOf K (mA K "Shelf" "need_kept")) ["self", "seal"] [] := T.F_Shelf_need_kept.bindsN fun _ _ _ _ _ _ us hl => match us, hl with | [_, _], _ => rfl
theorem ok_Shelf_need_kept (T : Txt K mg) (nd : base.NoDigits) : FnX false P w K mg base (L2.CX P w) 3 (mA K "Shelf" "need_kept") (fdOf K (mA K "Shelf" "need_kept")) ["self", "seal"] (sp_Shelf_need_kept K) := by
  refine okW T.F_Shelf_need_kept sc_Shelf_need_kept len_Shelf_need_kept (fun cdv A outer s H vs Q E hgu0 hr h tk pw => ⟨t_Shelf_need_kept K (WT E), ?_, pure_Shelf_need_kept T.c vs H Q E h⟩)
  exact (pss_one (ps_if (pt_cmpR (uo_notinU hr.u65) (pv 1) (pe_fld (pv 0) rfl) (by rfl)) (pss_one (ps_rz rfl tk T.xb_NoPiece T.xf_NoPiece.1 T.xf_NoPiece.2 (ok_NoPiece___init__ T) (hr.mono (by decide)) (bd_NoPiece___init__ T) (fun _ _ _ _ _ _ _ z => z.elim) rfl T.cg_NoPiece (pv 1))) pss_nil))
theorem sc_Shelf_hold : FnScope ["self", "seal"] ["self", "seal"] (defScope s_Shelf_hold) := ⟨rfl, rfl, rfl, by decide +kernel, rfl, by decide +kernel, by decide +kernel⟩
theorem bd_Shelf_hold (T : Txt K mg) : Binds K (fdOf K (mA K "Shelf" "hold")) ["self", "seal"] [] := T.F_Shelf_hold.bindsN fun _ _ _ _ _ _ us hl => match us, hl with | [_, _], _ => rfl
theorem ok_Shelf_hold (T : Txt K mg) (nd : base.NoDigits) : FnX false P w K mg base (L2.CX P w) 4 (mA K "Shelf" "hold") (fdOf K (mA K "Shelf" "hold")) ["self", "seal"] (sp_Shelf_hold K) := by
  refine okW T.F_Shelf_hold sc_Shelf_hold len_Shelf_hold (fun cdv A outer s H vs Q E hgu0 hr h tk pw => ⟨t_Shelf_hold K (WT E), ?_, pure_Shelf_hold T.c vs H Q E h⟩)
  exact (pss_cons (ps_if (pt_not (pt_val (pe_callX (ok_is_seal T nd) (fun z => nomatch z) (hr.mono (by decide)) rfl T.g_is_seal T.F_is_seal.kp (bd_is_seal T) .nil pass0 (pa_cons (pv 1) pa_nil)))) (pss_one (ps_rz rfl tk T.xb_Wrong T.xf_Wrong.1 T.xf_Wrong.2 (ok_Wrong___init__ T) (hr.mono (by decide)) (bd_Wrong___init__ T) (fun _ _ _ _ _ _ _ z => z.elim) rfl T.cg_Wrong pe_int)) pss_nil)
      (pss_cons (ps_expr (pe_methW (pv 0) T.cl_Shelf T.me_Shelf_need_kept (ok_Shelf_need_kept T nd) (fun z => nomatch z) hr (bd_Shelf_need_kept T) .nil (fun σ => passAt tk σ) (pa_cons (pv 1) pa_nil)))
      (pss_one (ps_augS (pe_fld (pv 0) rfl) (pv 1) (get_any hr.u1) pe_int (ip_of io_add) (set_any hr.u1)))))
theorem sc_Shelf_let_go : FnScope ["self", "seal"] ["self", "seal"] (defScope s_Shelf_let_go) := ⟨rfl, rfl, rfl, by decide +kernel, rfl, by decide +kernel, by decide +kernel⟩
theorem bd_Shelf_let_go (T : Txt K mg) : Binds K (fdOf K (mA K "Shelf" "let_go")) ["self", "seal"] [] := T.F_Shelf_let_go.bindsN fun _ _ _ _ _ _ us hl => match us, hl with | [_, _], _ => rfl
theorem ok_Shelf_let_go (T : Txt K mg) (nd : base.NoDigits) : FnX false P w K mg base (L2.CX P w) 4 (mA K "Shelf" "let_go") (fdOf K (mA K "Shelf" "let_go")) ["self", "seal"] (sp_Shelf_let_go K) := by
  refine okW T.F_Shelf_let_go sc_Shelf_let_go len_Shelf_let_go (fun cdv A outer s H vs Q E hgu0 hr h tk pw => ⟨t_Shelf_let_go K (WT E), ?_, pure_Shelf_let_go T.c vs H Q E h⟩)
  exact (pss_cons (ps_if (pt_not (pt_val (pe_callX (ok_is_seal T nd) (fun z => nomatch z) (hr.mono (by decide)) rfl T.g_is_seal T.F_is_seal.kp (bd_is_seal T) .nil pass0 (pa_cons (pv 1) pa_nil)))) (pss_one (ps_rz rfl tk T.xb_Wrong T.xf_Wrong.1 T.xf_Wrong.2 (ok_Wrong___init__ T) (hr.mono (by decide)) (bd_Wrong___init__ T) (fun _ _ _ _ _ _ _ z => z.elim) rfl T.cg_Wrong pe_int)) pss_nil)
      (pss_cons (ps_expr (pe_methW (pv 0) T.cl_Shelf T.me_Shelf_need_kept (ok_Shelf_need_kept T nd) (fun z => nomatch z) hr (bd_Shelf_need_kept T) .nil (fun σ => passAt tk σ) (pa_cons (pv 1) pa_nil)))
      (pss_cons (ps_augS (pe_fld (pv 0) rfl) (pv 1) (get_any hr.u1) pe_int (ip_of io_sub) (set_any hr.u1))
      (pss_cons (ps_if (pt_cmpR uo_gt (pe_ix (ix_dk hr.u1) (pe_fld (pv 0) rfl) (pv 1) (fun _ _ => rfl)) pe_int (nomark _)) (pss_one (ps_ret pe_bl)) pss_nil)
      (pss_cons (ps_expr (pe_dpop1 (pe_fld (pv 0) rfl) (pv 1) ⟨by rfl, by rfl, by rfl, by rfl⟩))
      (pss_cons (ps_expr (pe_dpop1 (pe_fld (pv 0) rfl) (pv 1) ⟨by rfl, by rfl, by rfl, by rfl⟩))
      (pss_one (ps_ret pe_bl))))))))
theorem sc_Shelf_harm : FnScope ["self", "seal", "signs"] ["self", "seal", "signs"] (defScope s_Shelf_harm) := ⟨rfl, rfl, rfl, by decide +kernel, rfl, by decide +kernel, by decide +kernel⟩
theorem bd_Shelf_harm (T : Txt K mg) : Binds K (fdOf K (mA K "Shelf" "harm")) ["self", "seal", "signs"] [] := T.F_Shelf_harm.bindsN fun _ _ _ _ _ _ us hl => match us, hl with | [_, _, _], _ => rfl
theorem ok_Shelf_harm (T : Txt K mg) (nd : base.NoDigits) : FnX false P w K mg base (L2.CX P w) 4 (mA K "Shelf" "harm") (fdOf K (mA K "Shelf" "harm")) ["self", "seal", "signs"] (sp_Shelf_harm K) := by
  refine okW T.F_Shelf_harm sc_Shelf_harm len_Shelf_harm (fun cdv A outer s H vs Q E hgu0 hr h tk pw => ⟨t_Shelf_harm K (WT E), ?_, pure_Shelf_harm T.c vs H Q E h⟩)
  exact (pss_cons (ps_if (pt_not (pt_val (pe_callX (ok_is_seal T nd) (fun z => nomatch z) (hr.mono (by decide)) rfl T.g_is_seal T.F_is_seal.kp (bd_is_seal T) .nil pass0 (pa_cons (pv 1) pa_nil)))) (pss_one (ps_rz rfl tk T.xb_Wrong T.xf_Wrong.1 T.xf_Wrong.2 (ok_Wrong___init__ T) (hr.mono (by decide)) (bd_Wrong___init__ T) (fun _ _ _ _ _ _ _ z => z.elim) rfl T.cg_Wrong pe_int)) pss_nil)
      (pss_cons (ps_if (pt_not (pt_val (pe_callX (ok_are_signs T nd) (fun z => nomatch z) hr rfl T.g_are_signs T.F_are_signs.kp (bd_are_signs T) .nil pass0 (pa_cons (pv 2) (pa_cons pe_int (pa_cons (pe_globI rfl T.c_MOST_PIECE) pa_nil)))))) (pss_one (ps_rz rfl tk T.xb_Wrong T.xf_Wrong.1 T.xf_Wrong.2 (ok_Wrong___init__ T) (hr.mono (by decide)) (bd_Wrong___init__ T) (fun _ _ _ _ _ _ _ z => z.elim) rfl T.cg_Wrong pe_int)) pss_nil)
      (pss_cons (ps_expr (pe_methW (pv 0) T.cl_Shelf T.me_Shelf_need_kept (ok_Shelf_need_kept T nd) (fun z => nomatch z) hr (bd_Shelf_need_kept T) .nil (fun σ => passAt tk σ) (pa_cons (pv 1) pa_nil)))
      (pss_one (ps_asg (pe_callTy cr_list (by rfl) T.b_list (by decide +kernel) (pa_cons (pv 2) pa_nil)) (pg_sub (pe_fld (pv 0) rfl) (pv 1) (set_any hr.u1)))))))
theorem sc_Shelf_lose : FnScope ["self", "seal"] ["self", "seal"] (defScope s_Shelf_lose) := ⟨rfl, rfl, rfl, by decide +kernel, rfl, by decide +kernel, by decide +kernel⟩
theorem bd_Shelf_lose (T : Txt K mg) : Binds K (fdOf K (mA K "Shelf" "lose")) ["self", "seal"] [] := T.F_Shelf_lose.bindsN fun _ _ _ _ _ _ us hl => match us, hl with | [_, _], _ => rfl
theorem ok_Shelf_lose (T : Txt K mg) (nd : base.NoDigits) : FnX false P w K mg base (L2.CX P w) 4 (mA K "Shelf" "lose") (fdOf K (mA K "Shelf" "lose")) ["self", "seal"] (sp_Shelf_lose K) := by
  refine okW T.F_Shelf_lose sc_Shelf_lose len_Shelf_lose (fun cdv A outer s H vs Q E hgu0 hr h tk pw => ⟨t_Shelf_lose K (WT E), ?_, pure_Shelf_lose T.c vs H Q E h⟩)
  exact (pss_cons (ps_if (pt_not (pt_val (pe_callX (ok_is_seal T nd) (fun z => nomatch z) (hr.mono (by decide)) rfl T.g_is_seal T.F_is_seal.kp (bd_is_seal T) .nil pass0 (pa_cons (pv 1) pa_nil)))) (pss_one (ps_rz rfl tk T.xb_Wrong T.xf_Wrong.1 T.xf_Wrong.2 (ok_Wrong___init__ T) (hr.mono (by decide)) (bd_Wrong___init__ T) (fun _ _ _ _ _ _ _ z => z.elim) rfl T.cg_Wrong pe_int)) pss_nil)
      (pss_cons (ps_expr (pe_methW (pv 0) T.cl_Shelf T.me_Shelf_need_kept (ok_Shelf_need_kept T nd) (fun z => nomatch z) hr (bd_Shelf_need_kept T) .nil (fun σ => passAt tk σ) (pa_cons (pv 1) pa_nil)))
      (pss_one (ps_asg pe_non (pg_sub (pe_fld (pv 0) rfl) (pv 1) (set_any hr.u1))))))
theorem sc_Shelf_heal : FnScope ["self", "seal", "signs"] ["self", "seal", "signs"] (defScope s_Shelf_heal) := ⟨rfl, rfl, rfl, by decide +kernel, rfl, by decide +kernel, by decide +kernel⟩
theorem bd_Shelf_heal (T : Txt K mg) : Binds K (fdOf K (mA K "Shelf" "heal")) ["self", "seal", "signs"] [] := T.F_Shelf_heal.bindsN fun _ _ _ _ _ _ us hl => match us, hl with | [_, _, _], _ => rfl
theorem ok_Shelf_heal (T : Txt K mg) (nd : base.NoDigits) : FnX false P w K mg base (L2.CX P w) 5 (mA K "Shelf" "heal") (fdOf K (mA K "Shelf" "heal")) ["self", "seal", "signs"] (sp_Shelf_heal K) := by
  refine okW T.F_Shelf_heal sc_Shelf_heal len_Shelf_heal (fun cdv A outer s H vs Q E hgu0 hr h tk pw => ⟨t_Shelf_heal K (WT E), ?_, pure_Shelf_heal T.c vs H Q E h⟩)
  exact (pss_cons (ps_if (pt_not (pt_val (pe_callX (ok_is_seal T nd) (fun z => nomatch z) (hr.mono (by decide)) rfl T.g_is_seal T.F_is_seal.kp (bd_is_seal T) .nil pass0 (pa_cons (pv 1) pa_nil)))) (pss_one (ps_rz rfl tk T.xb_Wrong T.xf_Wrong.1 T.xf_Wrong.2 (ok_Wrong___init__ T) (hr.mono (by decide)) (bd_Wrong___init__ T) (fun _ _ _ _ _ _ _ z => z.elim) rfl T.cg_Wrong pe_int)) pss_nil)
      (pss_cons (ps_if (pt_not (pt_val (pe_callX (ok_are_signs T nd) (fun z => nomatch z) (hr.mono (by decide)) rfl T.g_are_signs T.F_are_signs.kp (bd_are_signs T) .nil pass0 (pa_cons (pv 2) (pa_cons pe_int (pa_cons (pe_globI rfl T.c_MOST_PIECE) pa_nil)))))) (pss_one (ps_rz rfl tk T.xb_Wrong T.xf_Wrong.1 T.xf_Wrong.2 (ok_Wrong___init__ T) (hr.mono (by decide)) (bd_Wrong___init__ T) (fun _ _ _ _ _ _ _ z => z.elim) rfl T.cg_Wrong pe_int)) pss_nil)
      (pss_cons (ps_expr (pe_methW (pv 0) T.cl_Shelf T.me_Shelf_need_kept (ok_Shelf_need_kept T nd) (fun z => nomatch z) (hr.mono (by decide)) (bd_Shelf_need_kept T) .nil (fun σ => passAt tk σ) (pa_cons (pv 1) pa_nil)))
      (pss_cons (ps_if (pt_cmpR (uo_ne hr.units) (pe_callX (ok_seal_of T nd) (fun z => nomatch z) hr rfl T.g_seal_of T.F_seal_of.kp (bd_seal_of T) .nil pass0 (pa_cons (pv 2) pa_nil)) (pv 1) (nomark _)) (pss_one (ps_rz rfl tk T.xb_Unlike T.xf_Unlike.1 T.xf_Unlike.2 (ok_Unlike___init__ T) (hr.mono (by decide)) (bd_Unlike___init__ T) (fun _ _ _ _ _ _ _ z => z.elim) rfl T.cg_Unlike (pv 1))) pss_nil)
      (pss_one (ps_asg (pe_callTy cr_list (by rfl) T.b_list (by decide +kernel) (pa_cons (pv 2) pa_nil)) (pg_sub (pe_fld (pv 0) rfl) (pv 1) (set_any hr.u1))))))))
theorem sc_Shelf_held : FnScope ["self", "seal"] ["self", "seal"] (defScope s_Shelf_held) := ⟨rfl, rfl, rfl, by decide +kernel, rfl, by decide +kernel, by decide +kernel⟩
theorem bd_Shelf_held (T : Txt K mg) : Binds K (fdOf K (mA K "Shelf" "held")) ["self", "seal"] [] := T.F_Shelf_held.bindsN fun _ _ _ _ _ _ us hl => match us, hl with | [_, _], _ => rfl
theorem ok_Shelf_held (T : Txt K mg) (nd : base.NoDigits) : FnX false P w K mg base (L2.CX P w) 4 (mA K "Shelf" "held") (fdOf K (mA K "Shelf" "held")) ["self", "seal"] (sp_Shelf_held K) := by
  refine okW T.F_Shelf_held sc_Shelf_held len_Shelf_held (fun cdv A outer s H vs Q E hgu0 hr h tk pw => ⟨t_Shelf_held K (WT E), ?_, pure_Shelf_held T.c vs H Q E h⟩)
  exact (pss_cons (ps_if (pt_not (pt_val (pe_callX (ok_is_seal T nd) (fun z => nomatch z) (hr.mono (by decide)) rfl T.g_is_seal T.F_is_seal.kp (bd_is_seal T) .nil pass0 (pa_cons (pv 1) pa_nil)))) (pss_one (ps_rz rfl tk T.xb_Wrong T.xf_Wrong.1 T.xf_Wrong.2 (ok_Wrong___init__ T) (hr.mono (by decide)) (bd_Wrong___init__ T) (fun _ _ _ _ _ _ _ z => z.elim) rfl T.cg_Wrong pe_int)) pss_nil)
      (pss_cons (ps_expr (pe_methW (pv 0) T.cl_Shelf T.me_Shelf_need_kept (ok_Shelf_need_kept T nd) (fun z => nomatch z) hr (bd_Shelf_need_kept T) .nil (fun σ => passAt tk σ) (pa_cons (pv 1) pa_nil)))
      (pss_one (ps_ret (pe_ix (ix_dk hr.u1) (pe_fld (pv 0) rfl) (pv 1) (fun _ _ => rfl))))))
theorem sc_Shelf_has_sound : FnScope ["self", "seal", "body"] ["self", "seal"] (defScope s_Shelf_has_sound) := ⟨rfl, rfl, rfl, by decide +kernel, rfl, by decide +kernel, by decide +kernel⟩
theorem bd_Shelf_has_sound (T : Txt K mg) : Binds K (fdOf K (mA K "Shelf" "has_sound")) ["self", "seal"] [] := T.F_Shelf_has_sound.bindsN fun _ _ _ _ _ _ us hl => match us, hl with | [_, _], _ => rfl
theorem ok_Shelf_has_sound (T : Txt K mg) (nd : base.NoDigits) : FnX false P w K mg base CX0 5 (mA K "Shelf" "has_sound") (fdOf K (mA K "Shelf" "has_sound")) ["self", "seal"] (sp_Shelf_has_sound K) := by
  refine okX T.F_Shelf_has_sound sc_Shelf_has_sound len_Shelf_has_sound (fun cdv A outer s H vs Q E hgu0 hr h => ⟨t_Shelf_has_sound K, PSs.nox ?_, pure_Shelf_has_sound T.c vs H Q E h⟩)
  exact (pss_cons (ps_set (i := 2) sc_Shelf_has_sound.nd rfl (by first | exact Or.inl rfl | exact Or.inr rfl) (pe_ix (ix_dk hr.u1) (pe_fld (pv 0) rfl) (pv 1) (fun _ _ => rfl)))
      (pss_one (ps_ret (pe_and (pe_cmpR op_notN' (pv 2) pe_non (nomark _)) (pe_and (pe_cmpR (uo_ne hr.units) (pv 2) (pe_lst pa_nil) (nomark _)) (pe_one (pe_cmpR (uo_eq hr.units) (pe_callX (ok_seal_of T nd) (fun z => nomatch z) hr rfl T.g_seal_of T.F_seal_of.kp (bd_seal_of T) .nil pass0 (pa_cons (pv 2) pa_nil)) (pv 1) (nomark _))))))))
theorem sc_Shelf_is_sound : FnScope ["self", "seal"] ["self", "seal"] (defScope s_Shelf_is_sound) := ⟨rfl, rfl, rfl, by decide +kernel, rfl, by decide +kernel, by decide +kernel⟩
theorem bd_Shelf_is_sound (T : Txt K mg) : Binds K (fdOf K (mA K "Shelf" "is_sound")) ["self", "seal"] [] := T.F_Shelf_is_sound.bindsN fun _ _ _ _ _ _ us hl => match us, hl with | [_, _], _ => rfl
theorem ok_Shelf_is_sound (T : Txt K mg) (nd : base.NoDigits) : FnX false P w K mg base (L2.CX P w) 6 (mA K "Shelf" "is_sound") (fdOf K (mA K "Shelf" "is_sound")) ["self", "seal"] (sp_Shelf_is_sound K) := by
  refine okW T.F_Shelf_is_sound sc_Shelf_is_sound len_Shelf_is_sound (fun cdv A outer s H vs Q E hgu0 hr h tk pw => ⟨t_Shelf_is_sound K (WT E), ?_, pure_Shelf_is_sound T.c vs H Q E h⟩)
  exact (pss_cons (ps_if (pt_not (pt_val (pe_callX (ok_is_seal T nd) (fun z => nomatch z) (hr.mono (by decide)) rfl T.g_is_seal T.F_is_seal.kp (bd_is_seal T) .nil pass0 (pa_cons (pv 1) pa_nil)))) (pss_one (ps_rz rfl tk T.xb_Wrong T.xf_Wrong.1 T.xf_Wrong.2 (ok_Wrong___init__ T) (hr.mono (by decide)) (bd_Wrong___init__ T) (fun _ _ _ _ _ _ _ z => z.elim) rfl T.cg_Wrong pe_int)) pss_nil)
      (pss_cons (ps_expr (pe_methW (pv 0) T.cl_Shelf T.me_Shelf_need_kept (ok_Shelf_need_kept T nd) (fun z => nomatch z) (hr.mono (by decide)) (bd_Shelf_need_kept T) .nil (fun σ => passAt tk σ) (pa_cons (pv 1) pa_nil)))
      (pss_one (ps_ret (pe_methW (pv 0) T.cl_Shelf T.me_Shelf_has_sound (ok_Shelf_has_sound T nd) (fun z => nomatch z) hr (bd_Shelf_has_sound T) .nil (fun _ => pas0) (pa_cons (pv 1) pa_nil))))))
theorem sc_Shelf_read : FnScope ["self", "seal"] ["self", "seal"] (defScope s_Shelf_read) := ⟨rfl, rfl, rfl, by decide +kernel, rfl, by decide +kernel, by decide +kernel⟩
theorem bd_Shelf_read (T : Txt K mg) : Binds K (fdOf K (mA K "Shelf" "read")) ["self", "seal"] [] := T.F_Shelf_read.bindsN fun _ _ _ _ _ _ us hl => match us, hl with | [_, _], _ => rfl
theorem ok_Shelf_read (T : Txt K mg) (nd : base.NoDigits) : FnX false P w K mg base (L2.CX P w) 6 (mA K "Shelf" "read") (fdOf K (mA K "Shelf" "read")) ["self", "seal"] (sp_Shelf_read K) := by
  refine okW T.F_Shelf_read sc_Shelf_read len_Shelf_read (fun cdv A outer s H vs Q E hgu0 hr h tk pw => ⟨t_Shelf_read K (WT E), ?_, pure_Shelf_read T.c vs H Q E h⟩)
  exact (pss_cons (ps_if (pt_not (pt_val (pe_callX (ok_is_seal T nd) (fun z => nomatch z) (hr.mono (by decide)) rfl T.g_is_seal T.F_is_seal.kp (bd_is_seal T) .nil pass0 (pa_cons (pv 1) pa_nil)))) (pss_one (ps_rz rfl tk T.xb_Wrong T.xf_Wrong.1 T.xf_Wrong.2 (ok_Wrong___init__ T) (hr.mono (by decide)) (bd_Wrong___init__ T) (fun _ _ _ _ _ _ _ z => z.elim) rfl T.cg_Wrong pe_int)) pss_nil)
      (pss_cons (ps_expr (pe_methW (pv 0) T.cl_Shelf T.me_Shelf_need_kept (ok_Shelf_need_kept T nd) (fun z => nomatch z) (hr.mono (by decide)) (bd_Shelf_need_kept T) .nil (fun σ => passAt tk σ) (pa_cons (pv 1) pa_nil)))
      (pss_cons (ps_if (pt_not (pt_val (pe_methW (pv 0) T.cl_Shelf T.me_Shelf_has_sound (ok_Shelf_has_sound T nd) (fun z => nomatch z) hr (bd_Shelf_has_sound T) .nil (fun _ => pas0) (pa_cons (pv 1) pa_nil)))) (pss_one (ps_rz rfl tk T.xb_Broken T.xf_Broken.1 T.xf_Broken.2 (ok_Broken___init__ T) (hr.mono (by decide)) (bd_Broken___init__ T) (fun _ _ _ _ _ _ _ z => z.elim) rfl T.cg_Broken (pv 1))) pss_nil)
      (pss_one (ps_ret (pe_callTy cr_list (by rfl) T.b_list (by decide +kernel) (pa_cons (pe_ix (ix_dk hr.u1) (pe_fld (pv 0) rfl) (pv 1) (fun _ _ => rfl)) pa_nil)))))))
theorem sc_l_deed : FnScope ["_law_shelf", "_law_way", "_law_seal", "_law_signs_here"] ["_law_shelf", "_law_way", "_law_seal", "_law_signs_here"] (defScope s_l_deed) := ⟨rfl, rfl, rfl, by decide +kernel, rfl, by decide +kernel, by decide +kernel⟩
theorem bd_l_deed (T : Txt K mg) : Binds K (fdOf K (He.ga K "_law_deed")) ["_law_shelf", "_law_way", "_law_seal", "_law_signs_here"] [] := T.F_l_deed.bindsN fun _ _ _ _ _ _ us hl => match us, hl with | [_, _, _, _], _ => rfl
theorem ok_l_deed (T : Txt K mg) (nd : base.NoDigits) : FnX false P w K mg base (L2.CX P w) 7 (He.ga K "_law_deed") (fdOf K (He.ga K "_law_deed")) ["_law_shelf", "_law_way", "_law_seal", "_law_signs_here"] (sp_l_deed K) := by
  refine okW T.F_l_deed sc_l_deed len_l_deed (fun cdv A outer s H vs Q E hgu0 hr h tk pw => ⟨t_l_deed K (WT E), ?_, pure_l_deed T.c vs H Q E h⟩)
  exact (pss_cons (ps_if (pt_cmpR (uo_eq hr.units) (pv 1) pe_int (nomark _)) (pss_one (ps_ret (pe_methW (pv 0) T.cl_Shelf T.me_Shelf_lay (ok_Shelf_lay T nd) (fun z => nomatch z) (hr.mono (by decide)) (bd_Shelf_lay T) .nil (fun σ => passAt tk σ) (pa_cons (pv 3) pa_nil)))) pss_nil)
      (pss_cons (ps_if (pt_cmpR (uo_eq hr.units) (pv 1) pe_int (nomark _)) (pss_one (ps_ret (pe_methW (pv 0) T.cl_Shelf T.me_Shelf_hold (ok_Shelf_hold T nd) (fun z => nomatch z) (hr.mono (by decide)) (bd_Shelf_hold T) .nil (fun σ => passAt tk σ) (pa_cons (pv 2) pa_nil)))) pss_nil)
      (pss_cons (ps_if (pt_cmpR (uo_eq hr.units) (pv 1) pe_int (nomark _)) (pss_one (ps_ret (pe_methW (pv 0) T.cl_Shelf T.me_Shelf_let_go (ok_Shelf_let_go T nd) (fun z => nomatch z) (hr.mono (by decide)) (bd_Shelf_let_go T) .nil (fun σ => passAt tk σ) (pa_cons (pv 2) pa_nil)))) pss_nil)
      (pss_cons (ps_if (pt_cmpR (uo_eq hr.units) (pv 1) pe_int (nomark _)) (pss_one (ps_ret (pe_methW (pv 0) T.cl_Shelf T.me_Shelf_harm (ok_Shelf_harm T nd) (fun z => nomatch z) (hr.mono (by decide)) (bd_Shelf_harm T) .nil (fun σ => passAt tk σ) (pa_cons (pv 2) (pa_cons (pv 3) pa_nil))))) pss_nil)
      (pss_cons (ps_if (pt_cmpR (uo_eq hr.units) (pv 1) pe_int (nomark _)) (pss_one (ps_ret (pe_methW (pv 0) T.cl_Shelf T.me_Shelf_lose (ok_Shelf_lose T nd) (fun z => nomatch z) (hr.mono (by decide)) (bd_Shelf_lose T) .nil (fun σ => passAt tk σ) (pa_cons (pv 2) pa_nil)))) pss_nil)
      (pss_cons (ps_if (pt_cmpR (uo_eq hr.units) (pv 1) pe_int (nomark _)) (pss_one (ps_ret (pe_methW (pv 0) T.cl_Shelf T.me_Shelf_heal (ok_Shelf_heal T nd) (fun z => nomatch z) (hr.mono (by decide)) (bd_Shelf_heal T) .nil (fun σ => passAt tk σ) (pa_cons (pv 2) (pa_cons (pv 3) pa_nil))))) pss_nil)
      (pss_cons (ps_if (pt_cmpR (uo_eq hr.units) (pv 1) pe_int (nomark _)) (pss_one (ps_ret (pe_methW (pv 0) T.cl_Shelf T.me_Shelf_held (ok_Shelf_held T nd) (fun z => nomatch z) (hr.mono (by decide)) (bd_Shelf_held T) .nil (fun σ => passAt tk σ) (pa_cons (pv 2) pa_nil)))) pss_nil)
      (pss_cons (ps_if (pt_cmpR (uo_eq hr.units) (pv 1) pe_int (nomark _)) (pss_one (ps_ret (pe_methW (pv 0) T.cl_Shelf T.me_Shelf_is_sound (ok_Shelf_is_sound T nd) (fun z => nomatch z) hr (bd_Shelf_is_sound T) .nil (fun σ => passAt tk σ) (pa_cons (pv 2) pa_nil)))) pss_nil)
      (pss_one (ps_ret (pe_methW (pv 0) T.cl_Shelf T.me_Shelf_read (ok_Shelf_read T nd) (fun z => nomatch z) hr (bd_Shelf_read T) .nil (fun σ => passAt tk σ) (pa_cons (pv 2) pa_nil))))))))))))
theorem sc_l_refusal : FnScope ["_law_e", "_law_some", "_law_at"] ["_law_e"] (defScope s_l_refusal) := ⟨rfl, rfl, rfl, by decide +kernel, rfl, by decide +kernel, by decide +kernel⟩
theorem bd_l_refusal (T : Txt K mg) : Binds K (fdOf K (He.ga K "_law_refusal")) ["_law_e"] [] := T.F_l_refusal.bindsN fun _ _ _ _ _ _ us hl => match us, hl with | [_], _ => rfl
theorem ok_l_refusal (T : Txt K mg) : FnE P w K mg base 1 (He.ga K "_law_refusal") (fdOf K (He.ga K "_law_refusal")) "_law_e" (sp_l_refusal K) := by
  refine okE T.F_l_refusal sc_l_refusal (fun cdv A outer s H Q a oe cls d hr hz hf h => ⟨t_l_refusal K a cls d, PSs.nox ?_, pure_l_refusal T.c a cls d H Q h⟩)
  exact (pss_cons (ps_set (i := 1) sc_l_refusal.nd rfl (by first | exact Or.inl rfl | exact Or.inr rfl) (pe_lst (pa_cons (pe_callB (cr_isX List.mem_cons_self hz hf) (by rfl) T.b_isinstance (by decide +kernel) (pa_cons (pv 0) (pa_cons (pe_glob rfl T.cg_Wrong rfl) pa_nil))) (pa_cons (pe_callB (cr_isX List.mem_cons_self hz hf) (by rfl) T.b_isinstance (by decide +kernel) (pa_cons (pv 0) (pa_cons (pe_glob rfl T.cg_NoRoom rfl) pa_nil))) (pa_cons (pe_callB (cr_isX List.mem_cons_self hz hf) (by rfl) T.b_isinstance (by decide +kernel) (pa_cons (pv 0) (pa_cons (pe_glob rfl T.cg_NoPiece rfl) pa_nil))) (pa_cons (pe_callB (cr_isX List.mem_cons_self hz hf) (by rfl) T.b_isinstance (by decide +kernel) (pa_cons (pv 0) (pa_cons (pe_glob rfl T.cg_Unlike rfl) pa_nil))) pa_nil))))))
      (pss_cons (ps_set (i := 1) sc_l_refusal.nd rfl (by first | exact Or.inl rfl | exact Or.inr rfl) (pe_op uo_add (pv 1) (pe_lst (pa_cons (pe_callB (cr_isX List.mem_cons_self hz hf) (by rfl) T.b_isinstance (by decide +kernel) (pa_cons (pv 0) (pa_cons (pe_glob rfl T.cg_Broken rfl) pa_nil))) pa_nil))))
      (pss_cons (ps_if (pt_cmpR (uo_ne hr.units) (pe_bm PySem.F.plainAttrs_list PySem.F.slot_list_count PySem.F.type_list_count mt_countV (pv 1) (pa_cons pe_bl pa_nil)) pe_int (nomark _)) (pss_one (ps_ret (pe_tup (pa_cons pe_str pa_nil)))) pss_nil)
      (pss_cons (ps_set (i := 2) sc_l_refusal.nd rfl (by first | exact Or.inl rfl | exact Or.inr rfl) (pe_bm PySem.F.plainAttrs_list PySem.F.slot_list_index PySem.F.type_list_index mt_index (pv 1) (pa_cons pe_bl pa_nil)))
      (pss_cons (ps_if (pt_cmpR (uo_eq hr.units) (pv 2) pe_int (nomark _)) (pss_one (ps_ret (pe_tup (pa_cons pe_str (pa_cons (pe_xg List.mem_cons_self hz hf (pv 0)) pa_nil))))) pss_nil)
      (pss_cons (ps_if (pt_cmpR (uo_eq hr.units) (pv 2) pe_int (nomark _)) (pss_one (ps_ret (pe_tup (pa_cons pe_str (pa_cons (pe_xg List.mem_cons_self hz hf (pv 0)) pa_nil))))) pss_nil)
      (pss_one (ps_ret (pe_tup (pa_cons (pe_ix ix_any (pe_lst (pa_cons pe_str (pa_cons pe_str (pa_cons pe_str pa_nil)))) (pe_op uo_sub (pv 2) pe_int) (fun _ _ => rfl)) (pa_cons (pe_xg List.mem_cons_self hz hf (pv 0)) pa_nil)))))))))))
theorem sc_l_said : FnScope ["_law_shelf", "_law_way", "_law_seal", "_law_signs_here", "_law_found", "_law_e"] ["_law_shelf", "_law_way", "_law_seal", "_law_signs_here"] (defScope s_l_said) := ⟨rfl, rfl, rfl, by decide +kernel, rfl, by decide +kernel, by decide +kernel⟩
theorem bd_l_said (T : Txt K mg) : Binds K (fdOf K (He.ga K "_law_said")) ["_law_shelf", "_law_way", "_law_seal", "_law_signs_here"] [] := T.F_l_said.bindsN fun _ _ _ _ _ _ us hl => match us, hl with | [_, _, _, _], _ => rfl
theorem ok_l_said (T : Txt K mg) (nd : base.NoDigits) : FnX false P w K mg base CX0 8 (He.ga K "_law_said") (fdOf K (He.ga K "_law_said")) ["_law_shelf", "_law_way", "_law_seal", "_law_signs_here"] (sp_l_said K) := by
  refine okX T.F_l_said sc_l_said len_l_said (fun cdv A outer s H vs Q E hgu0 hr h => ⟨t_l_said K, PSs.nox ?_, pure_l_said T.c vs H Q E h⟩)
  exact (pss_cons (ps_set (i := 4) sc_l_said.nd rfl (by first | exact Or.inl rfl | exact Or.inr rfl) pe_non)
      (pss_cons (ps_tryT rfl rfl sc_l_said.nd tk0 (fun W pn xe tk pw => by exact (pss_one (ps_set (i := 4) sc_l_said.nd rfl (by first | exact Or.inl rfl | exact Or.inr rfl) (pe_callW (ok_l_deed T nd) (fun z => nomatch z) hr rfl T.g_l_deed T.F_l_deed.kp (bd_l_deed T) .nil (fun σ => passAt tk σ) (pa_cons (pv 0) (pa_cons (pv 1) (pa_cons (pv 2) (pa_cons (pv 3) pa_nil)))))))) (HdOk.named (i := 5) (test3 ⟨rfl, by decide, .inl T.cg_StoreError⟩ ⟨rfl, by decide, .inl T.cg_Missing⟩ ⟨rfl, by decide, .inl T.cg_Halted⟩) rfl rfl (fun a oe cls d pn hz hf => by exact (pss_one (ps_ret (pe_callE (ok_l_refusal T) List.mem_cons_self hz hf ((roomMark hr).mono (by decide)) rfl T.g_l_refusal T.F_l_refusal.kp (bd_l_refusal T) (pv 5))))) HdOk.nil))
      (pss_one (ps_ret (pe_tup (pa_cons pe_str (pa_cons (pv 4) pa_nil)))))))
theorem sc_Shelf_seals : FnScope ["self"] ["self"] (defScope s_Shelf_seals) := ⟨rfl, rfl, rfl, by decide +kernel, rfl, by decide +kernel, by decide +kernel⟩
theorem bd_Shelf_seals (T : Txt K mg) : Binds K (fdOf K (mA K "Shelf" "seals")) ["self"] [] := T.F_Shelf_seals.bindsN fun _ _ _ _ _ _ us hl => match us, hl with | [_], _ => rfl
theorem ok_Shelf_seals (T : Txt K mg) (nd : base.NoDigits) : FnX false P w K mg base CX0 1 (mA K "Shelf" "seals") (fdOf K (mA K "Shelf" "seals")) ["self"] (sp_Shelf_seals K) := by
  refine okX T.F_Shelf_seals sc_Shelf_seals len_Shelf_seals (fun cdv A outer s H vs Q E hgu0 hr h => ⟨t_Shelf_seals K, PSs.nox ?_, pure_Shelf_seals T.c vs H Q E h⟩)
  exact (pss_one (ps_ret (pe_callB (cr_sortedDI rfl) (by rfl) T.b_sorted (by decide +kernel) (pa_cons (pe_fld (pv 0) rfl) pa_nil))))
theorem sc_Shelf_broken : FnScope ["self", "seal"] ["self"] (defScope s_Shelf_broken) := ⟨rfl, rfl, rfl, by decide +kernel, rfl, by decide +kernel, by decide +kernel⟩
theorem bd_Shelf_broken (T : Txt K mg) : Binds K (fdOf K (mA K "Shelf" "broken")) ["self"] [] := T.F_Shelf_broken.bindsN fun _ _ _ _ _ _ us hl => match us, hl with | [_], _ => rfl
theorem ok_Shelf_broken (T : Txt K mg) (nd : base.NoDigits) : FnX false P w K mg base CX0 6 (mA K "Shelf" "broken") (fdOf K (mA K "Shelf" "broken")) ["self"] (sp_Shelf_broken K) := by
  refine okX T.F_Shelf_broken sc_Shelf_broken len_Shelf_broken (fun cdv A outer s H vs Q E hgu0 hr h => ⟨t_Shelf_broken K, PSs.nox ?_, pure_Shelf_broken T.c vs H Q E h⟩)
  exact (pss_one (ps_ret (pe_lc (own := [("seal", 1)]) (g := (gName 1)) (tt := (tNot (tB (tMethW W0 (He.ga K "Shelf") "has_sound" (sp_Shelf_has_sound K) [] (tVar 0) (tCons (tVar 1) tNil))))) rfl sc_Shelf_broken.nd (pi_list (pe_callB (cr_sortedDI rfl) (by rfl) T.b_sorted (by decide +kernel) (pa_cons (pe_fld (pv 0) rfl) pa_nil))) (blkOk_by (own := [("seal", 1)]) (N := ["self", "seal"]) (sc := defScope s_Shelf_broken) (by decide +kernel)) (fun _ _ _ _ _ => (pg_name (i := 1) sc_Shelf_broken.nd rfl (by first | exact Or.inl rfl | exact Or.inr rfl))) (fun _ _ _ _ _ => (pts_one (pt_not (pt_val (pe_methW (pv 0) T.cl_Shelf T.me_Shelf_has_sound (ok_Shelf_has_sound T nd) (fun z => nomatch z) hr (bd_Shelf_has_sound T) .nil (fun _ => pas0) (pa_cons (pv 1) pa_nil)))))) (fun _ _ _ _ _ => (pv 1)))))
theorem sc_Shelf___len__ : FnScope ["self"] ["self"] (defScope s_Shelf___len__) := ⟨rfl, rfl, rfl, by decide +kernel, rfl, by decide +kernel, by decide +kernel⟩
theorem bd_Shelf___len__ (T : Txt K mg) : Binds K (fdOf K (mA K "Shelf" "__len__")) ["self"] [] := T.F_Shelf___len__.bindsN fun _ _ _ _ _ _ us hl => match us, hl with | [_], _ => rfl
theorem ok_Shelf___len__ (T : Txt K mg) (nd : base.NoDigits) : FnX false P w K mg base CX0 1 (mA K "Shelf" "__len__") (fdOf K (mA K "Shelf" "__len__")) ["self"] (sp_Shelf___len__ K) := by
  refine okX T.F_Shelf___len__ sc_Shelf___len__ len_Shelf___len__ (fun cdv A outer s H vs Q E hgu0 hr h => ⟨t_Shelf___len__ K, PSs.nox ?_, pure_Shelf___len__ T.c vs H Q E h⟩)
  exact (pss_one (ps_ret (pe_callB cr_len (by rfl) T.b_len (by decide +kernel) (pa_cons (pe_fld (pv 0) rfl) pa_nil))))
theorem sc_l_state : FnScope ["_law_shelf", "_law_found", "_law_seal", "_law_way"] ["_law_shelf"] (defScope s_l_state) := ⟨rfl, rfl, rfl, by decide +kernel, rfl, by decide +kernel, by decide +kernel⟩
theorem bd_l_state (T : Txt K mg) : Binds K (fdOf K (He.ga K "_law_state")) ["_law_shelf"] [] := T.F_l_state.bindsN fun _ _ _ _ _ _ us hl => match us, hl with | [_], _ => rfl
theorem ok_l_state (T : Txt K mg) (nd : base.NoDigits) : FnX false P w K mg base CX0 9 (He.ga K "_law_state") (fdOf K (He.ga K "_law_state")) ["_law_shelf"] (sp_l_state K) := by
  refine okX T.F_l_state sc_l_state len_l_state (fun cdv A outer s H vs Q E hgu0 hr h => ⟨t_l_state K, PSs.nox ?_, pure_l_state T.c vs H Q E h⟩)
  exact (pss_cons (ps_set (i := 1) sc_l_state.nd rfl (by first | exact Or.inl rfl | exact Or.inr rfl) (pe_lst (pa_cons (pe_methW0 (pv 0) T.cl_Shelf T.me_Shelf_seals (ok_Shelf_seals T nd) (fun z => nomatch z) (hr.mono (by decide)) (bd_Shelf_seals T) .nil (fun _ => pas0)) (pa_cons (pe_methW0 (pv 0) T.cl_Shelf T.me_Shelf_broken (ok_Shelf_broken T nd) (fun z => nomatch z) (hr.mono (by decide)) (bd_Shelf_broken T) .nil (fun _ => pas0)) (pa_cons (pe_methW0 (pv 0) T.cl_Shelf T.me_Shelf_free (ok_Shelf_free T nd) (fun z => nomatch z) (hr.mono (by decide)) (bd_Shelf_free T) .nil (fun _ => pas0)) (pa_cons (pe_callB (cr_lenI T.me_Shelf___len__ (ok_Shelf___len__ T nd) (hr.mono (by decide)) (bd_Shelf___len__ T)) (by rfl) T.b_len (by decide +kernel) (pa_cons (pv 0) pa_nil)) pa_nil))))))
      (pss_cons (ps_for PassesOwn.never rfl (pi_list (pe_methW0 (pv 0) T.cl_Shelf T.me_Shelf_seals (ok_Shelf_seals T nd) (fun z => nomatch z) (hr.mono (by decide)) (bd_Shelf_seals T) .nil (fun _ => pas0))) (pg_name (i := 2) sc_l_state.nd rfl (by first | exact Or.inl rfl | exact Or.inr rfl)) (pss_one (ps_expr (pe_bm PySem.F.plainAttrs_list PySem.F.slot_list_append PySem.F.type_list_append mt_append (pv 1) (pa_cons (pe_lc (own := [("_law_way", 3)]) (g := (gName 3)) (tt := tYes) rfl sc_l_state.nd (pi_list (pe_lst (pa_cons pe_int (pa_cons pe_int (pa_cons pe_int pa_nil))))) (blkOk_by (own := [("_law_way", 3)]) (N := ["_law_shelf", "_law_found", "_law_seal", "_law_way"]) (sc := defScope s_l_state) (by decide +kernel)) (fun _ _ _ _ _ => (pg_name (i := 3) sc_l_state.nd rfl (by first | exact Or.inl rfl | exact Or.inr rfl))) (fun _ _ _ _ _ => pts_nil) (fun _ _ _ _ _ => (pe_callX (ok_l_said T nd) (fun z => nomatch z) hr rfl T.g_l_said T.F_l_said.kp (bd_l_said T) .nil pass0 (pa_cons (pv 0) (pa_cons (pv 3) (pa_cons (pv 2) (pa_cons (pe_lst pa_nil) pa_nil))))))) pa_nil)))))
      (pss_one (ps_ret (pv 1)))))
theorem sc_l_state_due : FnScope ["_law_model", "_law_room", "_law_bad", "_law_found", "_law_seal", "_law_way"] ["_law_model", "_law_room"] (defScope s_l_state_due) := ⟨rfl, rfl, rfl, by decide +kernel, rfl, by decide +kernel, by decide +kernel⟩
theorem bd_l_state_due (T : Txt K mg) : Binds K (fdOf K (He.ga K "_law_state_due")) ["_law_model", "_law_room"] [] := T.F_l_state_due.bindsN fun _ _ _ _ _ _ us hl => match us, hl with | [_, _], _ => rfl
theorem ok_l_state_due (T : Txt K mg) (nd : base.NoDigits) : FnX false P w K mg base CX0 5 (He.ga K "_law_state_due") (fdOf K (He.ga K "_law_state_due")) ["_law_model", "_law_room"] (sp_l_state_due K) := by
  refine okX T.F_l_state_due sc_l_state_due len_l_state_due (fun cdv A outer s H vs Q E hgu0 hr h => ⟨t_l_state_due K, PSs.nox ?_, pure_l_state_due vs H Q E h⟩)
  exact (pss_cons (ps_setLc (i := 2) (own := [("_law_seal", 4)]) (g := (gName 4)) (tt := (tNot (tB (tCall (sp_l_sound K) [] E0 (tCons (tVar 0) (tCons (tVar 4) tNil)))))) rfl sc_l_state_due.nd rfl rfl (sw_true rfl rfl rfl (by decide +kernel)) (pi_list (pe_callB (cr_sortedDI rfl) (by rfl) T.b_sorted (by decide +kernel) (pa_cons (pv 0) pa_nil))) (blkOk_by (own := [("_law_seal", 4)]) (N := ["_law_model", "_law_room", "_law_bad", "_law_found", "_law_seal", "_law_way"]) (sc := defScope s_l_state_due) (by decide +kernel)) (fun _ _ _ _ _ => (pg_name (i := 4) sc_l_state_due.nd rfl (by first | exact Or.inl rfl | exact Or.inr rfl))) (fun _ _ _ _ _ => (pts_one (pt_not (pt_val (pe_callX (ok_l_sound T nd) (fun z => nomatch z) (hr.mono (by decide)) rfl T.g_l_sound T.F_l_sound.kp (bd_l_sound T) .nil pass0 (pa_cons (pv 0) (pa_cons (pv 4) pa_nil))))))) (fun _ _ _ _ _ => (pv 4)))
      (pss_cons (ps_set (i := 3) sc_l_state_due.nd rfl (by first | exact Or.inl rfl | exact Or.inr rfl) (pe_lst (pa_cons (pe_callB (cr_sortedDI rfl) (by rfl) T.b_sorted (by decide +kernel) (pa_cons (pv 0) pa_nil)) (pa_cons (pv 2) (pa_cons (pe_op uo_sub (pv 1) (pe_callB cr_len (by rfl) T.b_len (by decide +kernel) (pa_cons (pv 0) pa_nil))) (pa_cons (pe_callB cr_len (by rfl) T.b_len (by decide +kernel) (pa_cons (pv 0) pa_nil)) pa_nil))))))
      (pss_cons (ps_for PassesOwn.never rfl (pi_list (pe_callB (cr_sortedDI rfl) (by rfl) T.b_sorted (by decide +kernel) (pa_cons (pv 0) pa_nil))) (pg_name (i := 4) sc_l_state_due.nd rfl (by first | exact Or.inl rfl | exact Or.inr rfl)) (pss_one (ps_expr (pe_bm PySem.F.plainAttrs_list PySem.F.slot_list_append PySem.F.type_list_append mt_append (pv 3) (pa_cons (pe_lc (own := [("_law_way", 5)]) (g := (gName 5)) (tt := tYes) rfl sc_l_state_due.nd (pi_list (pe_lst (pa_cons pe_int (pa_cons pe_int (pa_cons pe_int pa_nil))))) (blkOk_by (own := [("_law_way", 5)]) (N := ["_law_model", "_law_room", "_law_bad", "_law_found", "_law_seal", "_law_way"]) (sc := defScope s_l_state_due) (by decide +kernel)) (fun _ _ _ _ _ => (pg_name (i := 5) sc_l_state_due.nd rfl (by first | exact Or.inl rfl | exact Or.inr rfl))) (fun _ _ _ _ _ => pts_nil) (fun _ _ _ _ _ => (pe_callX (ok_l_due T nd) (fun z => nomatch z) hr rfl T.g_l_due T.F_l_due.kp (bd_l_due T) .nil pass0 (pa_cons (pv 0) (pa_cons (pv 1) (pa_cons (pv 5) (pa_cons (pv 4) (pa_cons (pe_lst pa_nil) pa_nil)))))))) pa_nil)))))
      (pss_one (ps_ret (pv 3))))))
theorem sc_law : FnScope ["_law_script", "_law_bag_here", "_law_often", "_law_pool_here", "_law_signs_here", "_law_turn", "_law_shelf", "_law_model", "_law_way", "_law_handed", "_law_as_was", "_law_due_here"] ["_law_script"] (defScope s_law) := ⟨rfl, rfl, rfl, by decide +kernel, rfl, by decide +kernel, by decide +kernel⟩
theorem bd_law (T : Txt K mg) : Binds K (fdOf K (He.ga K "law")) ["_law_script"] [] := T.F_law.bindsN fun _ _ _ _ _ _ us hl => match us, hl with | [_], _ => rfl
theorem ok_law (T : Txt K mg) (nd : base.NoDigits) : FnX true P w K mg base CX0 10 (He.ga K "law") (fdOf K (He.ga K "law")) ["_law_script"] (sp_law K) := by
  refine okX T.F_law sc_law len_law (fun cdv A outer s H vs Q E hgu0 hr h => ⟨t_law K, PSs.nox ?_, pure_law T.c vs H Q E h⟩)
  have hgu : (A.deeper (envOfC "law" (defScope s_law) s.heap.objs.size (He.ga K "law") cdv)).guards = some [] := hgu0 rfl
  exact (pss_cons (ps_set (i := 1) sc_law.nd rfl (by first | exact Or.inl rfl | exact Or.inr rfl) (pe_callX (ok_l_bag T nd) (fun z => nomatch z) (hr.mono (by decide)) rfl T.g_l_bag T.F_l_bag.kp (bd_l_bag T) .nil pass0 (pa_cons (pv 0) pa_nil)))
      (pss_cons (ps_set (i := 2) sc_law.nd rfl (by first | exact Or.inl rfl | exact Or.inr rfl) (pe_op uo_add pe_int (pe_callX (ok_l_take T nd) (fun z => nomatch z) (hr.mono (by decide)) rfl T.g_l_take T.F_l_take.kp (bd_l_take T) .nil pass0 (pa_cons (pv 1) (pa_cons pe_int pa_nil)))))
      (pss_cons (ps_set (i := 3) sc_law.nd rfl (by first | exact Or.inl rfl | exact Or.inr rfl) (pe_callX (ok_l_pool T nd) (fun z => nomatch z) (hr.mono (by decide)) rfl T.g_l_pool T.F_l_pool.kp (bd_l_pool T) .nil pass0 (pa_cons (pv 1) pa_nil)))
      (pss_cons (ps_par (by rfl) sc_law.nd rfl rfl (by decide) rfl rfl (pa_cons (pe_makeW T.mk_Shelf (ok_Shelf___init__ T nd) (hr.mono (by decide)) rfl T.cg_Shelf (bd_Shelf___init__ T) .nil (fun _ => pasF) (pa_cons pe_int pa_nil)) (pa_cons pe_dnewK pa_nil)) (by rfl))
      (pss_cons (ps_for PassesOwn.never rfl (pi_list (pe_op uo_add (pe_slice sl_any (pv 3) (po_some pe_int) po_none) (pe_op uo_mul (pe_slice sl_any (pv 3) po_none (po_some pe_int)) (pe_callX (ok_l_take T nd) (fun z => nomatch z) (hr.mono (by decide)) rfl T.g_l_take T.F_l_take.kp (bd_l_take T) .nil pass0 (pa_cons (pv 1) (pa_cons pe_int pa_nil)))))) (pg_name (i := 4) sc_law.nd rfl (by first | exact Or.inl rfl | exact Or.inr rfl)) (pss_cons (ps_expr (pe_callX (ok_l_due T nd) (fun z => nomatch z) (hr.mono (by decide)) rfl T.g_l_due T.F_l_due.kp (bd_l_due T) .nil pass0 (pa_cons (pv 7) (pa_cons pe_int (pa_cons pe_int (pa_cons pe_int (pa_cons (pv 4) pa_nil)))))))
      (pss_one (ps_expr (pe_methW (pv 6) T.cl_Shelf T.me_Shelf_lay (ok_Shelf_lay T nd) (fun z => nomatch z) (hr.mono (by decide)) (bd_Shelf_lay T) .nil (fun _ => pasF) (pa_cons (pe_callTy cr_list (by rfl) T.b_list (by decide +kernel) (pa_cons (pv 4) pa_nil)) pa_nil))))))
      (pss_cons (ps_for PassesOwn.never rfl (pi_range1 (by rfl) T.b_range (pa_cons (pe_callX (ok_l_take T nd) (fun z => nomatch z) (hr.mono (by decide)) rfl T.g_l_take T.F_l_take.kp (bd_l_take T) .nil pass0 (pa_cons (pv 1) (pa_cons pe_int pa_nil))) pa_nil)) (pg_name (i := 5) sc_law.nd rfl (by first | exact Or.inl rfl | exact Or.inr rfl)) (pss_cons (ps_set (i := 4) sc_law.nd rfl (by first | exact Or.inl rfl | exact Or.inr rfl) (pe_ix ix_any (pv 3) (pe_callX (ok_l_take T nd) (fun z => nomatch z) (hr.mono (by decide)) rfl T.g_l_take T.F_l_take.kp (bd_l_take T) .nil pass0 (pa_cons (pv 1) (pa_cons (pe_callB cr_len (by rfl) T.b_len (by decide +kernel) (pa_cons (pv 3) pa_nil)) pa_nil))) (fun _ _ => rfl)))
      (pss_cons (ps_set (i := 8) sc_law.nd rfl (by first | exact Or.inl rfl | exact Or.inr rfl) (pe_ix ix_any (pe_lst (pa_cons pe_int (pa_cons pe_int (pa_cons pe_int (pa_cons pe_int (pa_cons pe_int (pa_cons pe_int (pa_cons pe_int (pa_cons pe_int (pa_cons pe_int pa_nil)))))))))) (pe_callX (ok_l_take T nd) (fun z => nomatch z) (hr.mono (by decide)) rfl T.g_l_take T.F_l_take.kp (bd_l_take T) .nil pass0 (pa_cons (pv 1) (pa_cons pe_int pa_nil))) (fun _ _ => rfl)))
      (pss_cons (ps_set (i := 9) sc_law.nd rfl (by first | exact Or.inl rfl | exact Or.inr rfl) (pe_callTy cr_list (by rfl) T.b_list (by decide +kernel) (pa_cons (pv 4) pa_nil)))
      (pss_cons (ps_if (PW.pt (pw_or (pt_cmpR (uo_eq hr.units) (pv 8) pe_int (nomark _)) (pw_or1 (PW.pt (pw_and (pt_cmpR (uo_eq hr.units) (pv 8) pe_int (nomark _)) (pw_and1 (pt_cmpR (uo_eq hr.units) (pe_callX (ok_l_take T nd) (fun z => nomatch z) (hr.mono (by decide)) rfl T.g_l_take T.F_l_take.kp (bd_l_take T) .nil pass0 (pa_cons (pv 1) (pa_cons pe_int pa_nil))) pe_int (nomark _)))))))) (pss_one (ps_set (i := 9) sc_law.nd rfl (by first | exact Or.inl rfl | exact Or.inr rfl) (pe_orT (pe_callX (ok_l_body T nd) (fun z => nomatch z) (hr.mono (by decide)) rfl T.g_l_body T.F_l_body.kp (bd_l_body T) .nil pass0 (pa_cons (pv 1) (pa_cons (pv 3) (pa_cons (pv 4) pa_nil)))) (pe_one (pe_slice sl_any (pv 4) po_none (po_some (pe_op uo_div (pv 8) pe_int))))))) pss_nil)
      (pss_cons (ps_set (i := 10) sc_law.nd rfl (by first | exact Or.inl rfl | exact Or.inr rfl) (pe_callTy cr_list (by rfl) T.b_list (by decide +kernel) (pa_cons (pv 9) pa_nil)))
      (pss_cons (ps_set (i := 11) sc_law.nd rfl (by first | exact Or.inl rfl | exact Or.inr rfl) (pe_callX (ok_l_due T nd) (fun z => nomatch z) (hr.mono (by decide)) rfl T.g_l_due T.F_l_due.kp (bd_l_due T) .nil pass0 (pa_cons (pv 7) (pa_cons pe_int (pa_cons (pv 8) (pa_cons (pe_callX (ok_l_sum T nd) (fun z => nomatch z) (hr.mono (by decide)) rfl T.g_l_sum T.F_l_sum.kp (bd_l_sum T) .nil pass0 (pa_cons (pv 4) pa_nil)) (pa_cons (pv 10) pa_nil)))))))
      (pss_cons (ps_if (PW.pt (pw_or (pt_not (pt_val (pe_callX (ok_l_alike T nd) (fun _ => hgu) (hr.mono (by decide)) rfl T.g_l_alike T.F_l_alike.kp (bd_l_alike T) .nil pass0 (pa_cons (pe_callX (ok_l_said T nd) (fun z => nomatch z) (hr.mono (by decide)) rfl T.g_l_said T.F_l_said.kp (bd_l_said T) .nil pass0 (pa_cons (pv 6) (pa_cons (pv 8) (pa_cons (pe_callX (ok_l_sum T nd) (fun z => nomatch z) (hr.mono (by decide)) rfl T.g_l_sum T.F_l_sum.kp (bd_l_sum T) .nil pass0 (pa_cons (pv 4) pa_nil)) (pa_cons (pv 9) pa_nil))))) (pa_cons (pv 11) pa_nil))))) (pw_or1 (pt_cmpR (uo_ne hr.units) (pv 9) (pv 10) (nomark _))))) (pss_one (ps_ret pe_bl)) pss_nil)
      (pss_cons (ps_expr (pe_bm PySem.F.plainAttrs_list PySem.F.slot_list_append PySem.F.type_list_append mt_append (pv 9) (pa_cons pe_int pa_nil)))
      (pss_cons (ps_asg pe_int (pg_sub (pv 9) pe_int (set_any hr.u1)))
      (pss_one (ps_if (PW.pt (pw_and (pt_cmpR (uo_eq hr.units) (pe_callX (ok_l_take T nd) (fun z => nomatch z) (hr.mono (by decide)) rfl T.g_l_take T.F_l_take.kp (bd_l_take T) .nil pass0 (pa_cons (pv 1) (pa_cons (pv 2) pa_nil))) pe_int (nomark _)) (pw_and1 (pt_not (pt_val (pe_callX (ok_l_alike T nd) (fun _ => hgu) (hr.mono (by decide)) rfl T.g_l_alike T.F_l_alike.kp (bd_l_alike T) .nil pass0 (pa_cons (pe_callX (ok_l_state T nd) (fun z => nomatch z) hr rfl T.g_l_state T.F_l_state.kp (bd_l_state T) .nil pass0 (pa_cons (pv 6) pa_nil)) (pa_cons (pe_callX (ok_l_state_due T nd) (fun z => nomatch z) (hr.mono (by decide)) rfl T.g_l_state_due T.F_l_state_due.kp (bd_l_state_due T) .nil pass0 (pa_cons (pv 7) (pa_cons pe_int pa_nil))) pa_nil)))))))) (pss_one (ps_ret pe_bl)) pss_nil))))))))))))
      (pss_one (ps_ret (pe_callX (ok_l_alike T nd) (fun _ => hgu) (hr.mono (by decide)) rfl T.g_l_alike T.F_l_alike.kp (bd_l_alike T) .nil pass0 (pa_cons (pe_callX (ok_l_state T nd) (fun z => nomatch z) hr rfl T.g_l_state T.F_l_state.kp (bd_l_state T) .nil pass0 (pa_cons (pv 6) pa_nil)) (pa_cons (pe_callX (ok_l_state_due T nd) (fun z => nomatch z) (hr.mono (by decide)) rfl T.g_l_state_due T.F_l_state_due.kp (bd_l_state_due T) .nil pass0 (pa_cons (pv 7) (pa_cons pe_int pa_nil))) pa_nil)))))))))))
end
def d_l_bag : He.DefD := ⟨("_law_bag", none), "_law_bag", "_law_bag", defArgs s_l_bag, defBody s_l_bag, defScope s_l_bag, [], []⟩
def d_l_take : He.DefD := ⟨("_law_take", none), "_law_take", "_law_take", defArgs s_l_take, defBody s_l_take, defScope s_l_take, [], []⟩
def d_l_signs : He.DefD := ⟨("_law_signs", none), "_law_signs", "_law_signs", defArgs s_l_signs, defBody s_l_signs, defScope s_l_signs, [], []⟩
def d_l_pool : He.DefD := ⟨("_law_pool", none), "_law_pool", "_law_pool", defArgs s_l_pool, defBody s_l_pool, defScope s_l_pool, [], []⟩
def d_is_whole : He.DefD := ⟨("is_whole", none), "is_whole", "is_whole", defArgs s_is_whole, defBody s_is_whole, defScope s_is_whole, [], []⟩
def d_is_room : He.DefD := ⟨("is_room", none), "is_room", "is_room", defArgs s_is_room, defBody s_is_room, defScope s_is_room, [], []⟩
def d_Shelf___init__ : He.DefD := ⟨("Shelf", some "__init__"), "__init__", "Shelf.__init__", defArgs s_Shelf___init__, defBody s_Shelf___init__, defScope s_Shelf___init__, [], []⟩
def d_l_whole : He.DefD := ⟨("_law_whole", none), "_law_whole", "_law_whole", defArgs s_l_whole, defBody s_l_whole, defScope s_l_whole, [], []⟩
def d_l_are_signs : He.DefD := ⟨("_law_are_signs", none), "_law_are_signs", "_law_are_signs", defArgs s_l_are_signs, defBody s_l_are_signs, defScope s_l_are_signs, [], []⟩
def d_l_sum : He.DefD := ⟨("_law_sum", none), "_law_sum", "_law_sum", defArgs s_l_sum, defBody s_l_sum, defScope s_l_sum, [], []⟩
def d_l_laid : He.DefD := ⟨("_law_laid", none), "_law_laid", "_law_laid", defArgs s_l_laid, defBody s_l_laid, defScope s_l_laid, [], []⟩
def d_l_back : He.DefD := ⟨("_law_back", none), "_law_back", "_law_back", defArgs s_l_back, defBody s_l_back, defScope s_l_back, [], []⟩
def d_l_is_seal : He.DefD := ⟨("_law_is_seal", none), "_law_is_seal", "_law_is_seal", defArgs s_l_is_seal, defBody s_l_is_seal, defScope s_l_is_seal, [], []⟩
def d_l_sound : He.DefD := ⟨("_law_sound", none), "_law_sound", "_law_sound", defArgs s_l_sound, defBody s_l_sound, defScope s_l_sound, [], []⟩
def d_l_due : He.DefD := ⟨("_law_due", none), "_law_due", "_law_due", defArgs s_l_due, defBody s_l_due, defScope s_l_due, [], []⟩
def d_is_sign : He.DefD := ⟨("is_sign", none), "is_sign", "is_sign", defArgs s_is_sign, defBody s_is_sign, defScope s_is_sign, [], []⟩
def d_are_signs : He.DefD := ⟨("are_signs", none), "are_signs", "are_signs", defArgs s_are_signs, defBody s_are_signs, defScope s_are_signs, [], []⟩
def d_seal_of : He.DefD := ⟨("seal_of", none), "seal_of", "seal_of", defArgs s_seal_of, defBody s_seal_of, defScope s_seal_of, [], []⟩
def d_Shelf_free : He.DefD := ⟨("Shelf", some "free"), "free", "Shelf.free", defArgs s_Shelf_free, defBody s_Shelf_free, defScope s_Shelf_free, [], []⟩
def d_Shelf_lay : He.DefD := ⟨("Shelf", some "lay"), "lay", "Shelf.lay", defArgs s_Shelf_lay, defBody s_Shelf_lay, defScope s_Shelf_lay, [], []⟩
def d_l_body : He.DefD := ⟨("_law_body", none), "_law_body", "_law_body", defArgs s_l_body, defBody s_l_body, defScope s_l_body, [], []⟩
def d_l_alike : He.DefD := ⟨("_law_alike", none), "_law_alike", "_law_alike", defArgs s_l_alike, defBody s_l_alike, defScope s_l_alike, [], []⟩
def d_is_seal : He.DefD := ⟨("is_seal", none), "is_seal", "is_seal", defArgs s_is_seal, defBody s_is_seal, defScope s_is_seal, [], []⟩
def d_Shelf_need_kept : He.DefD := ⟨("Shelf", some "need_kept"), "need_kept", "Shelf.need_kept", defArgs s_Shelf_need_kept, defBody s_Shelf_need_kept, defScope s_Shelf_need_kept, [], []⟩
def d_Shelf_hold : He.DefD := ⟨("Shelf", some "hold"), "hold", "Shelf.hold", defArgs s_Shelf_hold, defBody s_Shelf_hold, defScope s_Shelf_hold, [], []⟩
def d_Shelf_let_go : He.DefD := ⟨("Shelf", some "let_go"), "let_go", "Shelf.let_go", defArgs s_Shelf_let_go, defBody s_Shelf_let_go, defScope s_Shelf_let_go, [], []⟩
def d_Shelf_harm : He.DefD := ⟨("Shelf", some "harm"), "harm", "Shelf.harm", defArgs s_Shelf_harm, defBody s_Shelf_harm, defScope s_Shelf_harm, [], []⟩
def d_Shelf_lose : He.DefD := ⟨("Shelf", some "lose"), "lose", "Shelf.lose", defArgs s_Shelf_lose, defBody s_Shelf_lose, defScope s_Shelf_lose, [], []⟩
def d_Shelf_heal : He.DefD := ⟨("Shelf", some "heal"), "heal", "Shelf.heal", defArgs s_Shelf_heal, defBody s_Shelf_heal, defScope s_Shelf_heal, [], []⟩
def d_Shelf_held : He.DefD := ⟨("Shelf", some "held"), "held", "Shelf.held", defArgs s_Shelf_held, defBody s_Shelf_held, defScope s_Shelf_held, [], []⟩
def d_Shelf_has_sound : He.DefD := ⟨("Shelf", some "has_sound"), "has_sound", "Shelf.has_sound", defArgs s_Shelf_has_sound, defBody s_Shelf_has_sound, defScope s_Shelf_has_sound, [], []⟩
def d_Shelf_is_sound : He.DefD := ⟨("Shelf", some "is_sound"), "is_sound", "Shelf.is_sound", defArgs s_Shelf_is_sound, defBody s_Shelf_is_sound, defScope s_Shelf_is_sound, [], []⟩
def d_Shelf_read : He.DefD := ⟨("Shelf", some "read"), "read", "Shelf.read", defArgs s_Shelf_read, defBody s_Shelf_read, defScope s_Shelf_read, [], []⟩
def d_l_deed : He.DefD := ⟨("_law_deed", none), "_law_deed", "_law_deed", defArgs s_l_deed, defBody s_l_deed, defScope s_l_deed, [], []⟩
def d_l_refusal : He.DefD := ⟨("_law_refusal", none), "_law_refusal", "_law_refusal", defArgs s_l_refusal, defBody s_l_refusal, defScope s_l_refusal, [], []⟩
def d_l_said : He.DefD := ⟨("_law_said", none), "_law_said", "_law_said", defArgs s_l_said, defBody s_l_said, defScope s_l_said, [], []⟩
def d_Shelf_seals : He.DefD := ⟨("Shelf", some "seals"), "seals", "Shelf.seals", defArgs s_Shelf_seals, defBody s_Shelf_seals, defScope s_Shelf_seals, [], []⟩
def d_Shelf_broken : He.DefD := ⟨("Shelf", some "broken"), "broken", "Shelf.broken", defArgs s_Shelf_broken, defBody s_Shelf_broken, defScope s_Shelf_broken, [], []⟩
def d_Shelf___len__ : He.DefD := ⟨("Shelf", some "__len__"), "__len__", "Shelf.__len__", defArgs s_Shelf___len__, defBody s_Shelf___len__, defScope s_Shelf___len__, [], []⟩
def d_l_state : He.DefD := ⟨("_law_state", none), "_law_state", "_law_state", defArgs s_l_state, defBody s_l_state, defScope s_l_state, [], []⟩
def d_l_state_due : He.DefD := ⟨("_law_state_due", none), "_law_state_due", "_law_state_due", defArgs s_l_state_due, defBody s_l_state_due, defScope s_l_state_due, [], []⟩
def d_law : He.DefD := ⟨("law", none), "law", "law", defArgs s_law, defBody s_law, defScope s_law, [], []⟩
def d_Wrong___init__ : He.DefD := ⟨("Wrong", some "__init__"), "__init__", "Wrong.__init__", defArgs s_Wrong___init__, defBody s_Wrong___init__, defScope s_Wrong___init__, [], []⟩
def d_NoRoom___init__ : He.DefD := ⟨("NoRoom", some "__init__"), "__init__", "NoRoom.__init__", defArgs s_NoRoom___init__, defBody s_NoRoom___init__, defScope s_NoRoom___init__, [], []⟩
def d_NoPiece___init__ : He.DefD := ⟨("NoPiece", some "__init__"), "__init__", "NoPiece.__init__", defArgs s_NoPiece___init__, defBody s_NoPiece___init__, defScope s_NoPiece___init__, [], []⟩
def d_Unlike___init__ : He.DefD := ⟨("Unlike", some "__init__"), "__init__", "Unlike.__init__", defArgs s_Unlike___init__, defBody s_Unlike___init__, defScope s_Unlike___init__, [], []⟩
def d_Broken___init__ : He.DefD := ⟨("Broken", some "__init__"), "__init__", "Broken.__init__", defArgs s_Broken___init__, defBody s_Broken___init__, defScope s_Broken___init__, [], []⟩
def fn : List He.DefD := ([d_l_bag, d_l_take, d_l_signs, d_l_pool, d_is_whole, d_is_room, d_Shelf___init__, d_l_whole, d_l_are_signs, d_l_sum, d_l_laid, d_l_back, d_l_is_seal, d_l_sound, d_l_due, d_is_sign, d_are_signs, d_seal_of, d_Shelf_free, d_Shelf_lay, d_l_body, d_l_alike, d_is_seal, d_Shelf_need_kept, d_Shelf_hold, d_Shelf_let_go, d_Shelf_harm, d_Shelf_lose, d_Shelf_heal, d_Shelf_held] : List He.DefD) ++ ([d_Shelf_has_sound, d_Shelf_is_sound, d_Shelf_read, d_l_deed, d_l_refusal, d_l_said, d_Shelf_seals, d_Shelf_broken, d_Shelf___len__, d_l_state, d_l_state_due, d_law, d_Wrong___init__, d_NoRoom___init__, d_NoPiece___init__, d_Unlike___init__, d_Broken___init__] : List He.DefD)
def fa : List (PySem.W.Frag → Bool) := ([(fun K => (He.Fa.int "MOST_ROOM" 400).ok K), (fun K => (He.Fa.int "MOST_SIGN" 999).ok K), (fun K => (He.Fa.int "MOST_PIECE" 16).ok K), (fun K => (He.Fa.int "BASE" 1001).ok K), (fun K => (He.Fa.glo "_law_bag").ok K), (fun K => (He.Fa.glo "_law_take").ok K), (fun K => (He.Fa.glo "_law_signs").ok K), (fun K => (He.Fa.glo "_law_pool").ok K), (fun K => (He.Fa.glo "is_whole").ok K), (fun K => (He.Fa.glo "is_room").ok K), (fun K => (He.Fa.glo "_law_whole").ok K), (fun K => (He.Fa.glo "_law_are_signs").ok K), (fun K => (He.Fa.glo "_law_sum").ok K), (fun K => (He.Fa.glo "_law_laid").ok K), (fun K => (He.Fa.glo "_law_back").ok K), (fun K => (He.Fa.glo "_law_is_seal").ok K), (fun K => (He.Fa.glo "_law_sound").ok K), (fun K => (He.Fa.glo "_law_due").ok K), (fun K => (He.Fa.glo "is_sign").ok K), (fun K => (He.Fa.glo "are_signs").ok K), (fun K => (He.Fa.glo "seal_of").ok K), (fun K => (He.Fa.glo "_law_body").ok K), (fun K => (He.Fa.glo "_law_alike").ok K), (fun K => (He.Fa.glo "is_seal").ok K), (fun K => (He.Fa.glo "_law_deed").ok K), (fun K => (He.Fa.glo "_law_refusal").ok K), (fun K => (He.Fa.glo "_law_said").ok K), (fun K => (He.Fa.glo "_law_state").ok K), (fun K => (He.Fa.glo "_law_state_due").ok K), (fun K => (He.Fa.glo "law").ok K)] : List (PySem.W.Frag → Bool)) ++ ([(fun K => (He.Fa.glo "Wrong").ok K), (fun K => (He.Fa.glo "NoRoom").ok K), (fun K => (He.Fa.glo "NoPiece").ok K), (fun K => (He.Fa.glo "Unlike").ok K), (fun K => (He.Fa.glo "Broken").ok K), (fun K => (He.Fa.glo "StoreError").ok K), (fun K => (He.Fa.glo "Missing").ok K), (fun K => (He.Fa.glo "Halted").ok K), (fun K => (He.Fa.glo "Shelf").ok K), (fun K => (He.Fa.cls "Shelf").ok K), (fun K => (He.Fa.mkr "Shelf").ok K), (fun K => (He.Fa.noat "Shelf" "room").ok K), (fun K => (He.Fa.noat "Shelf" "counts").ok K), (fun K => (He.Fa.noat "Shelf" "bodies").ok K), (fun K => (He.Fa.meth "Shelf" "free").ok K), (fun K => (He.Fa.meth "Shelf" "lay").ok K), (fun K => (He.Fa.meth "Shelf" "need_kept").ok K), (fun K => (He.Fa.meth "Shelf" "hold").ok K), (fun K => (He.Fa.meth "Shelf" "let_go").ok K), (fun K => (He.Fa.meth "Shelf" "harm").ok K), (fun K => (He.Fa.meth "Shelf" "lose").ok K), (fun K => (He.Fa.meth "Shelf" "heal").ok K), (fun K => (He.Fa.meth "Shelf" "held").ok K), (fun K => (He.Fa.meth "Shelf" "has_sound").ok K), (fun K => (He.Fa.meth "Shelf" "is_sound").ok K), (fun K => (He.Fa.meth "Shelf" "read").ok K), (fun K => (He.Fa.meth "Shelf" "seals").ok K), (fun K => (He.Fa.meth "Shelf" "broken").ok K), (fun K => (He.Fa.meth "Shelf" "__len__").ok K), (fun K => chB K "Wrong" (tlB "ValueError") "ValueError.__new__")] : List (PySem.W.Frag → Bool)) ++ ([(fun K => chF K "Wrong"), (fun K => chC K "Wrong"), (fun K => chN K "Wrong" "at"), (fun K => chI K "StoreError" "ValueError.__init__"), (fun K => chM K "Wrong" "StoreError" true), (fun K => chM K "Wrong" "Missing" false), (fun K => chM K "Wrong" "Halted" false), (fun K => chK K "Wrong" "Wrong" true), (fun K => chK K "Wrong" "NoRoom" false), (fun K => chK K "Wrong" "NoPiece" false), (fun K => chK K "Wrong" "Unlike" false), (fun K => chK K "Wrong" "Broken" false), (fun K => chB K "NoRoom" (tlB "RuntimeError") "RuntimeError.__new__"), (fun K => chF K "NoRoom"), (fun K => chC K "NoRoom"), (fun K => chN K "NoRoom" "room"), (fun K => chI K "Halted" "RuntimeError.__init__"), (fun K => chM K "NoRoom" "StoreError" false), (fun K => chM K "NoRoom" "Missing" false), (fun K => chM K "NoRoom" "Halted" true), (fun K => chK K "NoRoom" "Wrong" false), (fun K => chK K "NoRoom" "NoRoom" true), (fun K => chK K "NoRoom" "NoPiece" false), (fun K => chK K "NoRoom" "Unlike" false), (fun K => chK K "NoRoom" "Broken" false), (fun K => chB K "NoPiece" (tlB "LookupError") "LookupError.__new__"), (fun K => chF K "NoPiece"), (fun K => chC K "NoPiece"), (fun K => chN K "NoPiece" "seal"), (fun K => chI K "Missing" "LookupError.__init__")] : List (PySem.W.Frag → Bool)) ++ ([(fun K => chM K "NoPiece" "StoreError" false), (fun K => chM K "NoPiece" "Missing" true), (fun K => chM K "NoPiece" "Halted" false), (fun K => chK K "NoPiece" "Wrong" false), (fun K => chK K "NoPiece" "NoRoom" false), (fun K => chK K "NoPiece" "NoPiece" true), (fun K => chK K "NoPiece" "Unlike" false), (fun K => chK K "NoPiece" "Broken" false), (fun K => chB K "Unlike" (tlB "ValueError") "ValueError.__new__"), (fun K => chF K "Unlike"), (fun K => chC K "Unlike"), (fun K => chN K "Unlike" "seal"), (fun K => chM K "Unlike" "StoreError" true), (fun K => chM K "Unlike" "Missing" false), (fun K => chM K "Unlike" "Halted" false), (fun K => chK K "Unlike" "Wrong" false), (fun K => chK K "Unlike" "NoRoom" false), (fun K => chK K "Unlike" "NoPiece" false), (fun K => chK K "Unlike" "Unlike" true), (fun K => chK K "Unlike" "Broken" false), (fun K => chB K "Broken" (tlB "RuntimeError") "RuntimeError.__new__"), (fun K => chF K "Broken"), (fun K => chC K "Broken"), (fun K => chN K "Broken" "seal"), (fun K => chM K "Broken" "StoreError" false), (fun K => chM K "Broken" "Missing" false), (fun K => chM K "Broken" "Halted" true), (fun K => chK K "Broken" "Wrong" false), (fun K => chK K "Broken" "NoRoom" false), (fun K => chK K "Broken" "NoPiece" false)] : List (PySem.W.Frag → Bool)) ++ ([(fun K => chK K "Broken" "Unlike" false), (fun K => chK K "Broken" "Broken" true), (fun K => (He.Fa.free "abs").ok K), (fun K => (He.Fa.free "len").ok K), (fun K => (He.Fa.free "range").ok K), (fun K => (He.Fa.free "list").ok K), (fun K => (He.Fa.free "isinstance").ok K), (fun K => (He.Fa.free "int").ok K), (fun K => (He.Fa.free "bool").ok K), (fun K => (He.Fa.free "reversed").ok K), (fun K => (He.Fa.free "repr").ok K), (fun K => (He.Fa.free "sorted").ok K)] : List (PySem.W.Frag → Bool))
def names : List Str := (["_wall", "StoreError", "Missing", "Halted", "Wrong", "Unlike", "NoPiece", "NoRoom", "Broken", "MOST_SIGN", "BASE", "MOST_PIECE", "is_whole", "is_sign", "are_signs", "is_seal", "seal_of", "MOST_ROOM", "is_room", "Shelf", "_law_bag", "_law_take", "_law_alike", "_law_copy", "_law_whole", "_law_are_signs", "_law_sum", "_law_back", "_law_is_seal", "_law_signs"] : List Str) ++ (["_law_pool", "_law_deed", "_law_refusal", "_law_said", "_law_sound", "_law_laid", "_law_due", "_law_state", "_law_state_due", "_law_body"] : List Str)
abbrev R : PySem.W.OpenRow := PySem.W.OpenLaw.row PySem.Challenge.rw_restorechain_k23_harmed_and_healed
abbrev hk : PySem.W.Hook := hookF 5 fa fn
def ob (s : PySem.W.SharedT) : He.AlD := obsFG 5 fa fn (HandSHeadRun.getT s)
theorem ob_eq (s : PySem.W.SharedT) : ob s = hk.obs s.abs := obsFG_eq (HandSHeadRun.getT_eq s)
theorem run (w : World) : HandSHeadRun.RunEq R (PySem.W.view R.prog [45]) hk ob 4000 names w := by
  intro os
  kernel_rfl
theorem txt {K : PySem.W.Frag} {h : Heap} {mg : Str → Option Value} (X : K.In h) (G : h.Ns mainGlobals mg) (c : SaysF fa fn K) : Txt K mg where
  F_l_bag := fd_of (c.def_ 0 (d := d_l_bag) rfl)
  F_l_take := fd_of (c.def_ 1 (d := d_l_take) rfl)
  F_l_signs := fd_of (c.def_ 2 (d := d_l_signs) rfl)
  F_l_pool := fd_of (c.def_ 3 (d := d_l_pool) rfl)
  F_is_whole := fd_of (c.def_ 4 (d := d_is_whole) rfl)
  F_is_room := fd_of (c.def_ 5 (d := d_is_room) rfl)
  F_Shelf___init__ := fd_of (c.def_ 6 (d := d_Shelf___init__) rfl)
  F_l_whole := fd_of (c.def_ 7 (d := d_l_whole) rfl)
  F_l_are_signs := fd_of (c.def_ 8 (d := d_l_are_signs) rfl)
  F_l_sum := fd_of (c.def_ 9 (d := d_l_sum) rfl)
  F_l_laid := fd_of (c.def_ 10 (d := d_l_laid) rfl)
  F_l_back := fd_of (c.def_ 11 (d := d_l_back) rfl)
  F_l_is_seal := fd_of (c.def_ 12 (d := d_l_is_seal) rfl)
  F_l_sound := fd_of (c.def_ 13 (d := d_l_sound) rfl)
  F_l_due := fd_of (c.def_ 14 (d := d_l_due) rfl)
  F_is_sign := fd_of (c.def_ 15 (d := d_is_sign) rfl)
  F_are_signs := fd_of (c.def_ 16 (d := d_are_signs) rfl)
  F_seal_of := fd_of (c.def_ 17 (d := d_seal_of) rfl)
  F_Shelf_free := fd_of (c.def_ 18 (d := d_Shelf_free) rfl)
  F_Shelf_lay := fd_of (c.def_ 19 (d := d_Shelf_lay) rfl)
  F_l_body := fd_of (c.def_ 20 (d := d_l_body) rfl)
  F_l_alike := fd_of (c.def_ 21 (d := d_l_alike) rfl)
  F_is_seal := fd_of (c.def_ 22 (d := d_is_seal) rfl)
  F_Shelf_need_kept := fd_of (c.def_ 23 (d := d_Shelf_need_kept) rfl)
  F_Shelf_hold := fd_of (c.def_ 24 (d := d_Shelf_hold) rfl)
  F_Shelf_let_go := fd_of (c.def_ 25 (d := d_Shelf_let_go) rfl)
  F_Shelf_harm := fd_of (c.def_ 26 (d := d_Shelf_harm) rfl)
  F_Shelf_lose := fd_of (c.def_ 27 (d := d_Shelf_lose) rfl)
  F_Shelf_heal := fd_of (c.def_ 28 (d := d_Shelf_heal) rfl)
  F_Shelf_held := fd_of (c.def_ 29 (d := d_Shelf_held) rfl)
  F_Shelf_has_sound := fd_of (c.def_ 30 (d := d_Shelf_has_sound) rfl)
  F_Shelf_is_sound := fd_of (c.def_ 31 (d := d_Shelf_is_sound) rfl)
  F_Shelf_read := fd_of (c.def_ 32 (d := d_Shelf_read) rfl)
  F_l_deed := fd_of (c.def_ 33 (d := d_l_deed) rfl)
  F_l_refusal := fd_of (c.def_ 34 (d := d_l_refusal) rfl)
  F_l_said := fd_of (c.def_ 35 (d := d_l_said) rfl)
  F_Shelf_seals := fd_of (c.def_ 36 (d := d_Shelf_seals) rfl)
  F_Shelf_broken := fd_of (c.def_ 37 (d := d_Shelf_broken) rfl)
  F_Shelf___len__ := fd_of (c.def_ 38 (d := d_Shelf___len__) rfl)
  F_l_state := fd_of (c.def_ 39 (d := d_l_state) rfl)
  F_l_state_due := fd_of (c.def_ 40 (d := d_l_state_due) rfl)
  F_law := fd_of (c.def_ 41 (d := d_law) rfl)
  F_Wrong___init__ := fd_of (c.def_ 42 (d := d_Wrong___init__) rfl)
  F_NoRoom___init__ := fd_of (c.def_ 43 (d := d_NoRoom___init__) rfl)
  F_NoPiece___init__ := fd_of (c.def_ 44 (d := d_NoPiece___init__) rfl)
  F_Unlike___init__ := fd_of (c.def_ 45 (d := d_Unlike___init__) rfl)
  F_Broken___init__ := fd_of (c.def_ 46 (d := d_Broken___init__) rfl)
  c_MOST_ROOM := He.int_ok X G (c.fact 0 (f := (fun K => (He.Fa.int "MOST_ROOM" 400).ok K)) rfl)
  c_MOST_SIGN := He.int_ok X G (c.fact 1 (f := (fun K => (He.Fa.int "MOST_SIGN" 999).ok K)) rfl)
  c_MOST_PIECE := He.int_ok X G (c.fact 2 (f := (fun K => (He.Fa.int "MOST_PIECE" 16).ok K)) rfl)
  c_BASE := He.int_ok X G (c.fact 3 (f := (fun K => (He.Fa.int "BASE" 1001).ok K)) rfl)
  g_l_bag := He.glo_ok X G (c.fact 4 (f := (fun K => (He.Fa.glo "_law_bag").ok K)) rfl)
  g_l_take := He.glo_ok X G (c.fact 5 (f := (fun K => (He.Fa.glo "_law_take").ok K)) rfl)
  g_l_signs := He.glo_ok X G (c.fact 6 (f := (fun K => (He.Fa.glo "_law_signs").ok K)) rfl)
  g_l_pool := He.glo_ok X G (c.fact 7 (f := (fun K => (He.Fa.glo "_law_pool").ok K)) rfl)
  g_is_whole := He.glo_ok X G (c.fact 8 (f := (fun K => (He.Fa.glo "is_whole").ok K)) rfl)
  g_is_room := He.glo_ok X G (c.fact 9 (f := (fun K => (He.Fa.glo "is_room").ok K)) rfl)
  g_l_whole := He.glo_ok X G (c.fact 10 (f := (fun K => (He.Fa.glo "_law_whole").ok K)) rfl)
  g_l_are_signs := He.glo_ok X G (c.fact 11 (f := (fun K => (He.Fa.glo "_law_are_signs").ok K)) rfl)
  g_l_sum := He.glo_ok X G (c.fact 12 (f := (fun K => (He.Fa.glo "_law_sum").ok K)) rfl)
  g_l_laid := He.glo_ok X G (c.fact 13 (f := (fun K => (He.Fa.glo "_law_laid").ok K)) rfl)
  g_l_back := He.glo_ok X G (c.fact 14 (f := (fun K => (He.Fa.glo "_law_back").ok K)) rfl)
  g_l_is_seal := He.glo_ok X G (c.fact 15 (f := (fun K => (He.Fa.glo "_law_is_seal").ok K)) rfl)
  g_l_sound := He.glo_ok X G (c.fact 16 (f := (fun K => (He.Fa.glo "_law_sound").ok K)) rfl)
  g_l_due := He.glo_ok X G (c.fact 17 (f := (fun K => (He.Fa.glo "_law_due").ok K)) rfl)
  g_is_sign := He.glo_ok X G (c.fact 18 (f := (fun K => (He.Fa.glo "is_sign").ok K)) rfl)
  g_are_signs := He.glo_ok X G (c.fact 19 (f := (fun K => (He.Fa.glo "are_signs").ok K)) rfl)
  g_seal_of := He.glo_ok X G (c.fact 20 (f := (fun K => (He.Fa.glo "seal_of").ok K)) rfl)
  g_l_body := He.glo_ok X G (c.fact 21 (f := (fun K => (He.Fa.glo "_law_body").ok K)) rfl)
  g_l_alike := He.glo_ok X G (c.fact 22 (f := (fun K => (He.Fa.glo "_law_alike").ok K)) rfl)
  g_is_seal := He.glo_ok X G (c.fact 23 (f := (fun K => (He.Fa.glo "is_seal").ok K)) rfl)
  g_l_deed := He.glo_ok X G (c.fact 24 (f := (fun K => (He.Fa.glo "_law_deed").ok K)) rfl)
  g_l_refusal := He.glo_ok X G (c.fact 25 (f := (fun K => (He.Fa.glo "_law_refusal").ok K)) rfl)
  g_l_said := He.glo_ok X G (c.fact 26 (f := (fun K => (He.Fa.glo "_law_said").ok K)) rfl)
  g_l_state := He.glo_ok X G (c.fact 27 (f := (fun K => (He.Fa.glo "_law_state").ok K)) rfl)
  g_l_state_due := He.glo_ok X G (c.fact 28 (f := (fun K => (He.Fa.glo "_law_state_due").ok K)) rfl)
  g_law := He.glo_ok X G (c.fact 29 (f := (fun K => (He.Fa.glo "law").ok K)) rfl)
  cg_Wrong := He.glo_ok X G (c.fact 30 (f := (fun K => (He.Fa.glo "Wrong").ok K)) rfl)
  cg_NoRoom := He.glo_ok X G (c.fact 31 (f := (fun K => (He.Fa.glo "NoRoom").ok K)) rfl)
  cg_NoPiece := He.glo_ok X G (c.fact 32 (f := (fun K => (He.Fa.glo "NoPiece").ok K)) rfl)
  cg_Unlike := He.glo_ok X G (c.fact 33 (f := (fun K => (He.Fa.glo "Unlike").ok K)) rfl)
  cg_Broken := He.glo_ok X G (c.fact 34 (f := (fun K => (He.Fa.glo "Broken").ok K)) rfl)
  cg_StoreError := He.glo_ok X G (c.fact 35 (f := (fun K => (He.Fa.glo "StoreError").ok K)) rfl)
  cg_Missing := He.glo_ok X G (c.fact 36 (f := (fun K => (He.Fa.glo "Missing").ok K)) rfl)
  cg_Halted := He.glo_ok X G (c.fact 37 (f := (fun K => (He.Fa.glo "Halted").ok K)) rfl)
  cg_Shelf := He.glo_ok X G (c.fact 38 (f := (fun K => (He.Fa.glo "Shelf").ok K)) rfl)
  cl_Shelf := He.cls_ok (c.fact 39 (f := (fun K => (He.Fa.cls "Shelf").ok K)) rfl)
  mk_Shelf := He.mkr_ok (c.fact 40 (f := (fun K => (He.Fa.mkr "Shelf").ok K)) rfl)
  na_Shelf_room := He.noat_ok (c.fact 41 (f := (fun K => (He.Fa.noat "Shelf" "room").ok K)) rfl)
  na_Shelf_counts := He.noat_ok (c.fact 42 (f := (fun K => (He.Fa.noat "Shelf" "counts").ok K)) rfl)
  na_Shelf_bodies := He.noat_ok (c.fact 43 (f := (fun K => (He.Fa.noat "Shelf" "bodies").ok K)) rfl)
  me_Shelf_free := He.meth_ok (c.fact 44 (f := (fun K => (He.Fa.meth "Shelf" "free").ok K)) rfl)
  me_Shelf_lay := He.meth_ok (c.fact 45 (f := (fun K => (He.Fa.meth "Shelf" "lay").ok K)) rfl)
  me_Shelf_need_kept := He.meth_ok (c.fact 46 (f := (fun K => (He.Fa.meth "Shelf" "need_kept").ok K)) rfl)
  me_Shelf_hold := He.meth_ok (c.fact 47 (f := (fun K => (He.Fa.meth "Shelf" "hold").ok K)) rfl)
  me_Shelf_let_go := He.meth_ok (c.fact 48 (f := (fun K => (He.Fa.meth "Shelf" "let_go").ok K)) rfl)
  me_Shelf_harm := He.meth_ok (c.fact 49 (f := (fun K => (He.Fa.meth "Shelf" "harm").ok K)) rfl)
  me_Shelf_lose := He.meth_ok (c.fact 50 (f := (fun K => (He.Fa.meth "Shelf" "lose").ok K)) rfl)
  me_Shelf_heal := He.meth_ok (c.fact 51 (f := (fun K => (He.Fa.meth "Shelf" "heal").ok K)) rfl)
  me_Shelf_held := He.meth_ok (c.fact 52 (f := (fun K => (He.Fa.meth "Shelf" "held").ok K)) rfl)
  me_Shelf_has_sound := He.meth_ok (c.fact 53 (f := (fun K => (He.Fa.meth "Shelf" "has_sound").ok K)) rfl)
  me_Shelf_is_sound := He.meth_ok (c.fact 54 (f := (fun K => (He.Fa.meth "Shelf" "is_sound").ok K)) rfl)
  me_Shelf_read := He.meth_ok (c.fact 55 (f := (fun K => (He.Fa.meth "Shelf" "read").ok K)) rfl)
  me_Shelf_seals := He.meth_ok (c.fact 56 (f := (fun K => (He.Fa.meth "Shelf" "seals").ok K)) rfl)
  me_Shelf_broken := He.meth_ok (c.fact 57 (f := (fun K => (He.Fa.meth "Shelf" "broken").ok K)) rfl)
  me_Shelf___len__ := He.meth_ok (c.fact 58 (f := (fun K => (He.Fa.meth "Shelf" "__len__").ok K)) rfl)
  xb_Wrong := chB_VE (c.fact 59 (f := (fun K => chB K "Wrong" (tlB "ValueError") "ValueError.__new__")) rfl)
  xf_Wrong := chF_ok (c.fact 60 (f := (fun K => chF K "Wrong")) rfl)
  xc_Wrong := chC_ok (c.fact 61 (f := (fun K => chC K "Wrong")) rfl)
  xn_Wrong_at := id (c.fact 62 (f := (fun K => chN K "Wrong" "at")) rfl)
  xi_StoreError := chI_ok (c.fact 63 (f := (fun K => chI K "StoreError" "ValueError.__init__")) rfl)
  xm_Wrong_StoreError := chM_ok (c.fact 64 (f := (fun K => chM K "Wrong" "StoreError" true)) rfl)
  xm_Wrong_Missing := chM_ok (c.fact 65 (f := (fun K => chM K "Wrong" "Missing" false)) rfl)
  xm_Wrong_Halted := chM_ok (c.fact 66 (f := (fun K => chM K "Wrong" "Halted" false)) rfl)
  xk_Wrong_Wrong := chK_ok (c.fact 67 (f := (fun K => chK K "Wrong" "Wrong" true)) rfl)
  xk_Wrong_NoRoom := chK_ok (c.fact 68 (f := (fun K => chK K "Wrong" "NoRoom" false)) rfl)
  xk_Wrong_NoPiece := chK_ok (c.fact 69 (f := (fun K => chK K "Wrong" "NoPiece" false)) rfl)
  xk_Wrong_Unlike := chK_ok (c.fact 70 (f := (fun K => chK K "Wrong" "Unlike" false)) rfl)
  xk_Wrong_Broken := chK_ok (c.fact 71 (f := (fun K => chK K "Wrong" "Broken" false)) rfl)
  xb_NoRoom := chB_RE (c.fact 72 (f := (fun K => chB K "NoRoom" (tlB "RuntimeError") "RuntimeError.__new__")) rfl)
  xf_NoRoom := chF_ok (c.fact 73 (f := (fun K => chF K "NoRoom")) rfl)
  xc_NoRoom := chC_ok (c.fact 74 (f := (fun K => chC K "NoRoom")) rfl)
  xn_NoRoom_room := id (c.fact 75 (f := (fun K => chN K "NoRoom" "room")) rfl)
  xi_Halted := chI_ok (c.fact 76 (f := (fun K => chI K "Halted" "RuntimeError.__init__")) rfl)
  xm_NoRoom_StoreError := chM_ok (c.fact 77 (f := (fun K => chM K "NoRoom" "StoreError" false)) rfl)
  xm_NoRoom_Missing := chM_ok (c.fact 78 (f := (fun K => chM K "NoRoom" "Missing" false)) rfl)
  xm_NoRoom_Halted := chM_ok (c.fact 79 (f := (fun K => chM K "NoRoom" "Halted" true)) rfl)
  xk_NoRoom_Wrong := chK_ok (c.fact 80 (f := (fun K => chK K "NoRoom" "Wrong" false)) rfl)
  xk_NoRoom_NoRoom := chK_ok (c.fact 81 (f := (fun K => chK K "NoRoom" "NoRoom" true)) rfl)
  xk_NoRoom_NoPiece := chK_ok (c.fact 82 (f := (fun K => chK K "NoRoom" "NoPiece" false)) rfl)
  xk_NoRoom_Unlike := chK_ok (c.fact 83 (f := (fun K => chK K "NoRoom" "Unlike" false)) rfl)
  xk_NoRoom_Broken := chK_ok (c.fact 84 (f := (fun K => chK K "NoRoom" "Broken" false)) rfl)
  xb_NoPiece := chB_LE (c.fact 85 (f := (fun K => chB K "NoPiece" (tlB "LookupError") "LookupError.__new__")) rfl)
  xf_NoPiece := chF_ok (c.fact 86 (f := (fun K => chF K "NoPiece")) rfl)
  xc_NoPiece := chC_ok (c.fact 87 (f := (fun K => chC K "NoPiece")) rfl)
  xn_NoPiece_seal := id (c.fact 88 (f := (fun K => chN K "NoPiece" "seal")) rfl)
  xi_Missing := chI_ok (c.fact 89 (f := (fun K => chI K "Missing" "LookupError.__init__")) rfl)
  xm_NoPiece_StoreError := chM_ok (c.fact 90 (f := (fun K => chM K "NoPiece" "StoreError" false)) rfl)
  xm_NoPiece_Missing := chM_ok (c.fact 91 (f := (fun K => chM K "NoPiece" "Missing" true)) rfl)
  xm_NoPiece_Halted := chM_ok (c.fact 92 (f := (fun K => chM K "NoPiece" "Halted" false)) rfl)
  xk_NoPiece_Wrong := chK_ok (c.fact 93 (f := (fun K => chK K "NoPiece" "Wrong" false)) rfl)
  xk_NoPiece_NoRoom := chK_ok (c.fact 94 (f := (fun K => chK K "NoPiece" "NoRoom" false)) rfl)
  xk_NoPiece_NoPiece := chK_ok (c.fact 95 (f := (fun K => chK K "NoPiece" "NoPiece" true)) rfl)
  xk_NoPiece_Unlike := chK_ok (c.fact 96 (f := (fun K => chK K "NoPiece" "Unlike" false)) rfl)
  xk_NoPiece_Broken := chK_ok (c.fact 97 (f := (fun K => chK K "NoPiece" "Broken" false)) rfl)
  xb_Unlike := chB_VE (c.fact 98 (f := (fun K => chB K "Unlike" (tlB "ValueError") "ValueError.__new__")) rfl)
  xf_Unlike := chF_ok (c.fact 99 (f := (fun K => chF K "Unlike")) rfl)
  xc_Unlike := chC_ok (c.fact 100 (f := (fun K => chC K "Unlike")) rfl)
  xn_Unlike_seal := id (c.fact 101 (f := (fun K => chN K "Unlike" "seal")) rfl)
  xm_Unlike_StoreError := chM_ok (c.fact 102 (f := (fun K => chM K "Unlike" "StoreError" true)) rfl)
  xm_Unlike_Missing := chM_ok (c.fact 103 (f := (fun K => chM K "Unlike" "Missing" false)) rfl)
  xm_Unlike_Halted := chM_ok (c.fact 104 (f := (fun K => chM K "Unlike" "Halted" false)) rfl)
  xk_Unlike_Wrong := chK_ok (c.fact 105 (f := (fun K => chK K "Unlike" "Wrong" false)) rfl)
  xk_Unlike_NoRoom := chK_ok (c.fact 106 (f := (fun K => chK K "Unlike" "NoRoom" false)) rfl)
  xk_Unlike_NoPiece := chK_ok (c.fact 107 (f := (fun K => chK K "Unlike" "NoPiece" false)) rfl)
  xk_Unlike_Unlike := chK_ok (c.fact 108 (f := (fun K => chK K "Unlike" "Unlike" true)) rfl)
  xk_Unlike_Broken := chK_ok (c.fact 109 (f := (fun K => chK K "Unlike" "Broken" false)) rfl)
  xb_Broken := chB_RE (c.fact 110 (f := (fun K => chB K "Broken" (tlB "RuntimeError") "RuntimeError.__new__")) rfl)
  xf_Broken := chF_ok (c.fact 111 (f := (fun K => chF K "Broken")) rfl)
  xc_Broken := chC_ok (c.fact 112 (f := (fun K => chC K "Broken")) rfl)
  xn_Broken_seal := id (c.fact 113 (f := (fun K => chN K "Broken" "seal")) rfl)
  xm_Broken_StoreError := chM_ok (c.fact 114 (f := (fun K => chM K "Broken" "StoreError" false)) rfl)
  xm_Broken_Missing := chM_ok (c.fact 115 (f := (fun K => chM K "Broken" "Missing" false)) rfl)
  xm_Broken_Halted := chM_ok (c.fact 116 (f := (fun K => chM K "Broken" "Halted" true)) rfl)
  xk_Broken_Wrong := chK_ok (c.fact 117 (f := (fun K => chK K "Broken" "Wrong" false)) rfl)
  xk_Broken_NoRoom := chK_ok (c.fact 118 (f := (fun K => chK K "Broken" "NoRoom" false)) rfl)
  xk_Broken_NoPiece := chK_ok (c.fact 119 (f := (fun K => chK K "Broken" "NoPiece" false)) rfl)
  xk_Broken_Unlike := chK_ok (c.fact 120 (f := (fun K => chK K "Broken" "Unlike" false)) rfl)
  xk_Broken_Broken := chK_ok (c.fact 121 (f := (fun K => chK K "Broken" "Broken" true)) rfl)
  b_abs := He.free_ok X G (c.fact 122 (f := (fun K => (He.Fa.free "abs").ok K)) rfl)
  b_len := He.free_ok X G (c.fact 123 (f := (fun K => (He.Fa.free "len").ok K)) rfl)
  b_range := He.free_ok X G (c.fact 124 (f := (fun K => (He.Fa.free "range").ok K)) rfl)
  b_list := He.free_ok X G (c.fact 125 (f := (fun K => (He.Fa.free "list").ok K)) rfl)
  b_isinstance := He.free_ok X G (c.fact 126 (f := (fun K => (He.Fa.free "isinstance").ok K)) rfl)
  b_int := He.free_ok X G (c.fact 127 (f := (fun K => (He.Fa.free "int").ok K)) rfl)
  b_bool := He.free_ok X G (c.fact 128 (f := (fun K => (He.Fa.free "bool").ok K)) rfl)
  b_reversed := He.free_ok X G (c.fact 129 (f := (fun K => (He.Fa.free "reversed").ok K)) rfl)
  b_repr := He.free_ok X G (c.fact 130 (f := (fun K => (He.Fa.free "repr").ok K)) rfl)
  b_sorted := He.free_ok X G (c.fact 131 (f := (fun K => (He.Fa.free "sorted").ok K)) rfl)
end RC
open PySem PySem.W PySem.Calls PyProof.Rows
set_option maxRecDepth 100000 in
set_option maxHeartbeats 0 in
theorem PySem.Challenge.cw_restorechain_k23_harmed_and_healed_holds : PySem.Challenge.rw_restorechain_k23_harmed_and_healed.Holds := by
  w_on; o_law
  refine HandSHeadRun.head_any (r := OpenLaw.row PySem.Challenge.rw_restorechain_k23_harmed_and_healed) (q := view (OpenLaw.row PySem.Challenge.rw_restorechain_k23_harmed_and_healed).prog [45]) (H := RC.hk) (ob := RC.ob) (M := 4000) (loose := RC.names)
    (d := HandSHeadRun.topDef (OpenLaw.row PySem.Challenge.rw_restorechain_k23_harmed_and_healed).prog 45) (kwd := []) RC.ob_eq (by kernel_rfl) (fun s => by kernel_rfl) RC.run
    (by kernel_rfl) (by kernel_rfl) (by kernel_rfl) (by rfl) (by first | assumption | decide +kernel) (by decide +kernel) ⟨rfl, rfl, rfl, rfl, rfl, by decide +kernel⟩ ?hw ?hc
  case hw => w_witness2
  case hc =>
    refine RC.walk_G (l := PySem.Challenge.rw_restorechain_k23_harmed_and_healed) (n := 63) (k := 10) (x := "_law_script") (CX := fun _ => L2.CX0) rfl (by decide) (by kernel_rfl) ⟨rfl, by decide, by decide⟩ ?F (fun _ _ _ _ _ z => z)
    intro w mg fa h Y G hmg0
    obtain ⟨K, KX, c⟩ := Y
    have hmg : mg ("law" : PySem.Str) = some (.ref fa) := by
      have e : (HandSHeadRun.topDef (OpenLaw.row PySem.Challenge.rw_restorechain_k23_harmed_and_healed).prog 45).name = ("law" : PySem.Str) := by kernel_rfl
      rw [← e]
      exact hmg0
    have T := RC.txt KX G c
    have e := hmg.symm.trans T.g_law
    cases e
    exact ⟨K, _, RC.sp_law K, KX, fun s v => L2.FunD.bindsA (ps := ["_law_script"]) T.F_law (fun _ _ _ _ _ _ us hl => match us, hl with | [_], _ => rfl) s [v] rfl,
      RC.law_start K, fun base _ _ nd => RC.ok_law T nd⟩
