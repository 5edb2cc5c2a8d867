import PyProof.Rows.All
import Wide.All
import OpenK.AllK
import Wide.FinOn
import KE.KStateDown
import HandS.ForMost
import HandS.More
import HandS.Walk
import HandS.Wide
import HandS.IsInst
import HandS.RaiseMore
import HandS.Style
import HandS.Deep
import HandS.MakeKwOnly
import HandS.WordsExc
import HandS.Defaults
import HandS.Head0
import HandS.Head1
import HandS.Head2
import HandS.HeadEnd
import HandS.HeadHook1
import HandS.HeadHook2
import HandS.Codes
import HandS.WideMore
import KE.KIntText
import HandS.ExcInit
import HandS.ExcField
import HandS.ExcIs
import HandS.ExcOwn
import HandS.TryMany
import HandS.HotCalls
import HandS.Flow
import KE.KTryMore
import KE.KExcInit
import KE.KExcIs
import PyProof.Conv_int_bool
import HandS.DictComp
import HandS.DeepEq
import HandS.TupAny
import HandS.Conv
import PySem.Challenge.RW_restorechain_k43_bases_found
set_option Elab.async false
set_option linter.all false
set_option maxRecDepth 100000
set_option maxHeartbeats 4000000
namespace RC
open PySem PySem.Spec PyProof.Rows L2
/-! ### resources -/
abbrev Cell := Addr × HO
def Ext (F F' : Hp) : Prop := ∀ a o, F a = some o → F' a = some o
theorem Ext.refl (F : Hp) : Ext F F := fun _ _ h => h
theorem Ext.trans {F G H : Hp} (a : Ext F G) (b : Ext G H) : Ext F H := fun x o h => b x o (a x o h)
theorem Ext.new {H : Hp} {p : Addr} {o : HO} (h : H p = none) : Ext H (upd H p o) := fun a u e => by
  rw [upd_ne (ne_of_none e h)]
  exact e
theorem Ext.rd {H H' : Hp} {a : Addr} {u : HO} (e : Ext H H') (h : Rd H a u) : Rd H' a u := by
  rcases h with h | ⟨o, h⟩
  · exact Or.inl (e a _ h)
  · exact Or.inr ⟨o, e a _ h⟩
theorem Ext.sqL {K : PySem.W.Frag} {H H' : Hp} {a : Addr} {xs : List V} (e : Ext H H') (h : SqL K H a xs) : SqL K H' a xs := by
  rcases h with h | h
  · exact Or.inl (e.rd h)
  · exact Or.inr h
theorem Ext.sqT {K : PySem.W.Frag} {H H' : Hp} {a : Addr} {xs : List V} (e : Ext H H') (h : SqT K H a xs) : SqT K H' a xs := by
  rcases h with h | h
  · exact Or.inl (e.rd h)
  · exact Or.inr h
mutual
theorem Dp_ext {K : PySem.W.Frag} {H H' : Hp} (e : Ext H H') : ∀ {v : V} {d : PyData}, Dp K H v d → Dp K H' v d
  | _, _, .non => .non
  | _, _, .bl b => .bl b
  | _, _, .int i => .int i
  | _, _, .str x => .str x
  | _, _, .lst h ds => .lst (e.sqL h) (DpAll_ext e ds)
  | _, _, .tup h ds => .tup (e.sqT h) (DpAll_ext e ds)
theorem DpAll_ext {K : PySem.W.Frag} {H H' : Hp} (e : Ext H H') : ∀ {vs : List V} {ds : List PyData}, DpAll K H vs ds → DpAll K H' vs ds
  | _, _, .nil => .nil
  | _, _, .cons h r => .cons (Dp_ext e h) (DpAll_ext e r)
end
structure Res where
  on : Hp → List Cell → Prop
  mono : ∀ F F' l, Ext F F' → on F l → on F' l
/-- the object o stands at p, owned -/
def pt (p : Addr) (o : HO) : Res := ⟨fun _ l => l = [(p, o)], fun _ _ _ _ h => h⟩
/-- the object o stands at p for ever -/
def fz (p : Addr) (o : HO) : Res := ⟨fun F l => l = [] ∧ F p = some o, fun _ _ _ e h => ⟨h.1, e _ _ h.2⟩⟩
/-- v is the data d for ever -/
def dt (K : PySem.W.Frag) (v : V) (d : PyData) : Res := ⟨fun F l => l = [] ∧ Dp K F v d, fun _ _ _ e h => ⟨h.1, Dp_ext e h.2⟩⟩
def sp2 (R S : Res) : Res := ⟨fun F l => ∃ l1 l2, l = l1 ++ l2 ∧ R.on F l1 ∧ S.on F l2, fun _ _ _ e ⟨l1, l2, h, a, b⟩ => ⟨l1, l2, h, R.mono _ _ _ e a, S.mono _ _ _ e b⟩⟩
def exi {α : Type} (R : α → Res) : Res := ⟨fun F l => ∃ x, (R x).on F l, fun _ _ _ e ⟨x, h⟩ => ⟨x, (R x).mono _ _ _ e h⟩⟩
def prp (φ : Prop) (R : Res) : Res := ⟨fun F l => φ ∧ R.on F l, fun _ _ _ e h => ⟨h.1, R.mono _ _ _ e h.2⟩⟩
def Sat (F : Hp) : List Res → List Cell → Prop
  | [], l => l = []
  | R :: Rs, l => ∃ l1 l2, l = l1 ++ l2 ∧ R.on F l1 ∧ Sat F Rs l2
theorem Sat.mono {F F' : Hp} (e : Ext F F') : ∀ {Rs : List Res} {l : List Cell}, Sat F Rs l → Sat F' Rs l
  | [], _, h => h
  | R :: _, _, ⟨l1, l2, h, a, b⟩ => ⟨l1, l2, h, R.mono _ _ _ e a, Sat.mono e b⟩
theorem Sat.perm {F : Hp} {Rs Rs' : List Res} (p : Rs.Perm Rs') : ∀ {l : List Cell}, Sat F Rs l → ∃ l', l.Perm l' ∧ Sat F Rs' l' := by
  induction p with
  | nil => exact fun h => ⟨_, .refl _, h⟩
  | cons R _ ih =>
    rintro l ⟨l1, l2, rfl, a, b⟩
    obtain ⟨l3, q, c⟩ := ih b
    exact ⟨l1 ++ l3, .append_left _ q, l1, l3, rfl, a, c⟩
  | swap R S Rs =>
    rintro l ⟨l1, l2, rfl, a, l3, l4, rfl, b, c⟩
    refine ⟨l3 ++ (l1 ++ l4), ?_, l3, l1 ++ l4, rfl, b, l1, l4, rfl, a, c⟩
    rw [← List.append_assoc, ← List.append_assoc]
    exact List.Perm.append_right _ List.perm_append_comm
  | trans _ _ ih1 ih2 =>
    intro l h
    obtain ⟨l1, p1, h1⟩ := ih1 h
    obtain ⟨l2, p2, h2⟩ := ih2 h1
    exact ⟨l2, p1.trans p2, h2⟩
structure MemC (F : Hp) (L : List Cell) (H : Hp) : Prop where
  ex : Ext F H
  own : ∀ c ∈ L, H c.1 = some c.2 ∧ F c.1 = none
  nd : (L.map (·.1)).Nodup
theorem MemC.perm {F : Hp} {L L' : List Cell} {H : Hp} (h : MemC F L H) (p : L.Perm L') : MemC F L' H :=
  ⟨h.ex, fun c hc => h.own c (p.mem_iff.mpr hc), (p.map _).nodup_iff.mp h.nd⟩
/-- THE STATE: the resources hold, apart from one another -/
def M (Rs : List Res) (H : Hp) : Prop := ∃ F L, Sat F Rs L ∧ MemC F L H
section
variable {Rs Rs' : List Res} {R S : Res} {H : Hp} {p : Addr} {o o' : HO}
theorem M.perm (h : M Rs H) (q : Rs.Perm Rs') : M Rs' H := by
  obtain ⟨F, L, a, b⟩ := h
  obtain ⟨L', q', a'⟩ := a.perm q
  exact ⟨F, L', a', b.perm q'⟩
theorem M.nil : M [] H := ⟨fun _ => none, [], rfl, ⟨(fun _ _ h => nomatch h), (fun _ h => nomatch h), List.nodup_nil⟩⟩
theorem M.tl (h : M (R :: Rs) H) : M Rs H := by
  obtain ⟨F, L, ⟨l1, l2, rfl, a, b⟩, m⟩ := h
  refine ⟨F, l2, b, m.ex, fun c hc => m.own c (List.mem_append_right _ hc), ?_⟩
  have := m.nd
  rw [List.map_append] at this
  exact (List.nodup_append.mp this).2.1
theorem perm_at : ∀ {Rs : List Res} (i : Nat) {R : Res}, Rs[i]? = some R → Rs.Perm (R :: Rs.eraseIdx i)
  | [], i, R, h => by simp at h
  | S :: Rs, 0, R, h => by
    have e : S = R := Option.some.inj h
    subst e
    exact .refl _
  | S :: Rs, i + 1, R, h => by
    have ih := perm_at (Rs := Rs) i (R := R) (by simpa using h)
    exact (List.Perm.cons S ih).trans (List.Perm.swap R S _)
/-- the i-th resource comes first -/
theorem M.at (h : M Rs H) (i : Nat) (e : Rs[i]? = some R) : M (R :: Rs.eraseIdx i) H := h.perm (perm_at i e)
theorem M.hd (h : M (pt p o :: Rs) H) : H p = some o := by
  obtain ⟨F, L, ⟨l1, l2, rfl, rfl, b⟩, m⟩ := h
  exact (m.own (p, o) (by simp)).1
theorem M.hdF (h : M (fz p o :: Rs) H) : H p = some o := by
  obtain ⟨F, L, ⟨l1, l2, rfl, ⟨_, e⟩, b⟩, m⟩ := h
  exact m.ex _ _ e
theorem M.hdD {K : PySem.W.Frag} {v : V} {d : PyData} (h : M (dt K v d :: Rs) H) : Dp K H v d := by
  obtain ⟨F, L, ⟨l1, l2, rfl, ⟨_, e⟩, b⟩, m⟩ := h
  exact Dp_ext m.ex e
theorem M.got (h : M Rs H) (i : Nat) (e : Rs[i]? = some (pt p o)) : H p = some o := (h.at i e).hd
theorem M.gotF (h : M Rs H) (i : Nat) (e : Rs[i]? = some (fz p o)) : H p = some o := (h.at i e).hdF
theorem M.gotD {K : PySem.W.Frag} {v : V} {d : PyData} (h : M Rs H) (i : Nat) (e : Rs[i]? = some (dt K v d)) : Dp K H v d := (h.at i e).hdD
/-- a new object -/
theorem M.new (h : M Rs H) (hp : H p = none) : M (pt p o :: Rs) (upd H p o) := by
  obtain ⟨F, L, a, m⟩ := h
  have fp : F p = none := by
    cases q : F p with
    | none => rfl
    | some u => rw [m.ex _ _ q] at hp; cases hp
  refine ⟨F, (p, o) :: L, ⟨[(p, o)], L, rfl, rfl, a⟩, ⟨m.ex.trans (Ext.new hp), fun c hc => ?_, ?_⟩⟩
  · rcases List.mem_cons.mp hc with rfl | hc
    · exact ⟨upd_same, fp⟩
    · have q := m.own c hc
      refine ⟨?_, q.2⟩
      rw [upd_ne (ne_of_none q.1 hp)]
      exact q.1
  · rw [List.map_cons, List.nodup_cons]
    refine ⟨fun hm => ?_, m.nd⟩
    obtain ⟨c, hc, e⟩ := List.mem_map.mp hm
    have q := (m.own c hc).1
    rw [e, hp] at q
    cases q
/-- an owned object is changed -/
theorem M.put (h : M (pt p o :: Rs) H) : M (pt p o' :: Rs) (upd H p o') := by
  obtain ⟨F, L, ⟨l1, l2, rfl, rfl, b⟩, m⟩ := h
  have fp : F p = none := (m.own (p, o) (by simp)).2
  have nd := m.nd
  rw [List.map_append] at nd
  have nd2 : ((p :: l2.map (·.1)) : List Addr).Nodup := nd
  have np := (List.nodup_cons.mp nd2).1
  refine ⟨F, (p, o') :: l2, ⟨[(p, o')], l2, rfl, rfl, b⟩, ⟨fun a u e => ?_, fun c hc => ?_, nd2⟩⟩
  · have : a ≠ p := fun z => by rw [z, fp] at e; cases e
    rw [upd_ne this]
    exact m.ex _ _ e
  · rcases List.mem_cons.mp hc with rfl | hc
    · exact ⟨upd_same, fp⟩
    · have q := m.own c (List.mem_append_right _ hc)
      refine ⟨?_, q.2⟩
      have : c.1 ≠ p := fun z => np (List.mem_map.mpr ⟨c, hc, z⟩)
      rw [upd_ne this]
      exact q.1
/-- an owned object stays as it is from now on -/
theorem M.fix (h : M (pt p o :: Rs) H) : M (fz p o :: Rs) H := by
  obtain ⟨F, L, ⟨l1, l2, rfl, rfl, b⟩, m⟩ := h
  have hp := m.own (p, o) (by simp)
  have nd := m.nd
  rw [List.map_append] at nd
  have nd2 : ((p :: l2.map (·.1)) : List Addr).Nodup := nd
  have np := (List.nodup_cons.mp nd2).1
  have ex : Ext F (upd F p o) := Ext.new hp.2
  refine ⟨upd F p o, l2, ⟨[], l2, rfl, ⟨rfl, upd_same⟩, b.mono ex⟩, ⟨fun a u e => ?_, fun c hc => ?_, (List.nodup_cons.mp nd2).2⟩⟩
  · by_cases z : a = p
    · subst z
      rw [upd_same] at e
      cases e
      exact hp.1
    · rw [upd_ne z] at e
      exact m.ex _ _ e
  · have q := m.own c (List.mem_append_right _ hc)
    refine ⟨q.1, ?_⟩
    have : c.1 ≠ p := fun z => np (List.mem_map.mpr ⟨c, hc, z⟩)
    rw [upd_ne this]
    exact q.2
theorem M.dupF (h : M (fz p o :: Rs) H) : M (fz p o :: fz p o :: Rs) H := by
  obtain ⟨F, L, ⟨l1, l2, rfl, ⟨rfl, e⟩, b⟩, m⟩ := h
  exact ⟨F, l2, ⟨[], l2, rfl, ⟨rfl, e⟩, [], l2, rfl, ⟨rfl, e⟩, b⟩, m⟩
theorem M.dupD {K : PySem.W.Frag} {v : V} {d : PyData} (h : M (dt K v d :: Rs) H) : M (dt K v d :: dt K v d :: Rs) H := by
  obtain ⟨F, L, ⟨l1, l2, rfl, ⟨rfl, e⟩, b⟩, m⟩ := h
  exact ⟨F, l2, ⟨[], l2, rfl, ⟨rfl, e⟩, [], l2, rfl, ⟨rfl, e⟩, b⟩, m⟩
theorem M.sp (h : M (sp2 R S :: Rs) H) : M (R :: S :: Rs) H := by
  obtain ⟨F, L, ⟨l1, l2, rfl, ⟨l3, l4, rfl, a, b⟩, c⟩, m⟩ := h
  exact ⟨F, _, ⟨l3, l4 ++ l2, by rw [List.append_assoc], a, l4, l2, rfl, b, c⟩, m⟩
theorem M.sp' (h : M (R :: S :: Rs) H) : M (sp2 R S :: Rs) H := by
  obtain ⟨F, L, ⟨l1, l2, rfl, a, l3, l4, rfl, b, c⟩, m⟩ := h
  exact ⟨F, _, ⟨l1 ++ l3, l4, by rw [List.append_assoc], ⟨l1, l3, rfl, a, b⟩, c⟩, m⟩
theorem M.ex {α : Type} {T : α → Res} (h : M (exi T :: Rs) H) : ∃ x, M (T x :: Rs) H := by
  obtain ⟨F, L, ⟨l1, l2, rfl, ⟨x, a⟩, c⟩, m⟩ := h
  exact ⟨x, F, _, ⟨l1, l2, rfl, a, c⟩, m⟩
theorem M.ex' {α : Type} {T : α → Res} (x : α) (h : M (T x :: Rs) H) : M (exi T :: Rs) H := by
  obtain ⟨F, L, ⟨l1, l2, rfl, a, c⟩, m⟩ := h
  exact ⟨F, _, ⟨l1, l2, rfl, ⟨x, a⟩, c⟩, m⟩
theorem M.pr {φ : Prop} (h : M (prp φ R :: Rs) H) : φ ∧ M (R :: Rs) H := by
  obtain ⟨F, L, ⟨l1, l2, rfl, ⟨x, a⟩, c⟩, m⟩ := h
  exact ⟨x, F, _, ⟨l1, l2, rfl, a, c⟩, m⟩
theorem M.pr' {φ : Prop} (x : φ) (h : M (R :: Rs) H) : M (prp φ R :: Rs) H := by
  obtain ⟨F, L, ⟨l1, l2, rfl, a, c⟩, m⟩ := h
  exact ⟨F, _, ⟨l1, l2, rfl, ⟨x, a⟩, c⟩, m⟩
/-- the i-th, owned, is changed; the places stay -/
theorem perm_set : ∀ {Rs : List Res} (i : Nat) {R S : Res}, Rs[i]? = some R → (S :: Rs.eraseIdx i).Perm (Rs.set i S)
  | [], i, R, S, h => by simp at h
  | T :: Rs, 0, R, S, h => .refl _
  | T :: Rs, i + 1, R, S, h => by
    have ih := perm_set (Rs := Rs) i (R := R) (S := S) (by simpa using h)
    exact (List.Perm.swap T S _).trans (List.Perm.cons T ih)
theorem M.putAt (h : M Rs H) (i : Nat) (e : Rs[i]? = some (pt p o)) : M (Rs.set i (pt p o')) (upd H p o') := ((h.at i e).put (o' := o')).perm (perm_set i e)
theorem M.fixAt (h : M Rs H) (i : Nat) (e : Rs[i]? = some (pt p o)) : M (Rs.set i (fz p o)) H := (h.at i e).fix.perm (perm_set i e)
theorem M.setAt (h : M Rs H) (i : Nat) (e : Rs[i]? = some R) (k : M (R :: Rs.eraseIdx i) H → M (S :: Rs.eraseIdx i) H) : M (Rs.set i S) H := (k (h.at i e)).perm (perm_set i e)
end
end RC

namespace RC
open PySem PySem.Spec PyProof.Rows L2
/-! ### a def's promise: the names may be bound in any order; g: it wants to know that nothing is being shown (repr) around it -/
structure FnX (g : Bool) (P : Program) (w : World) (K : PySem.W.Frag) (mg : Str → Option Value) (base : Heap) (CX : CXT) (k : Nat) (f : Addr) (fd : FuncData) (ps : List Str) (sp : Sp) : Prop where
  lenG : ∀ vs H Q E, sp vs H Q E → vs.length = ps.length
  runG : ∀ (B : Around) (out : List Env) (t : Shared) (H : Hp) (args : Args) (bs : List (Str × Value)) (us : List Value) (vs : List V) (Q : VK) (E : XK), (g = true → B.guards = some []) → Room k B → Env0 P w K mg base B out t H →
    BindsTo t fd args bs → bs.Perm (ps.zip us) → Vals vs us → sp vs H Q E → codeAny (model P w) B (.call (.ref f) args) (CR CX out P w H t Q E) t
theorem zip_names {α β : Type} : ∀ (as : List α) (bs : List β), (as.zip bs).map (·.1) = as.take bs.length
  | [], _ => by simp
  | _ :: _, [] => rfl
  | a :: as, b :: bs => by
    show a :: (as.zip bs).map (·.1) = a :: as.take bs.length
    rw [zip_names as bs]
theorem bindL_perm {kd : Str → Option NameKind} {l l' : List (Str × Value)} (p : l.Perm l') : (l.map (·.1)).Nodup → ∀ m, bindL kd l m = bindL kd l' m := by
  induction p with
  | nil => exact fun _ _ => rfl
  | cons x _ ih =>
    intro nd m
    obtain ⟨n, v⟩ := x
    have nd2 := (List.nodup_cons.mp nd).2
    unfold bindL
    split <;> exact ih nd2 _
  | swap x y l =>
    intro nd m
    obtain ⟨n, v⟩ := x
    obtain ⟨n', v'⟩ := y
    have ne : n' ≠ n := fun e => (List.nodup_cons.mp nd).1 (by rw [e]; exact List.mem_cons_self)
    show bindL kd ((n', v') :: (n, v) :: l) m = bindL kd ((n, v) :: (n', v') :: l) m
    unfold bindL
    unfold bindL
    by_cases h1 : kd n' = some .local <;> by_cases h2 : kd n = some .local <;> simp only [h1, h2, if_true, if_false]
    all_goals try rfl
    congr 1
    funext z
    by_cases e1 : z = n
    · subst e1
      simp [Ne.symm ne]
    · simp [e1]
  | trans p q ih1 ih2 =>
    intro nd m
    rw [ih1 nd m, ih2 ((p.map _).nodup_iff.mp nd) m]
theorem bindC_perm {kd : Str → Option NameKind} {l l' : List (Str × Value)} (p : l.Perm l') : (l.map (·.1)).Nodup → ∀ m, bindC kd l m = bindC kd l' m := by
  induction p with
  | nil => exact fun _ _ => rfl
  | cons x _ ih =>
    intro nd m
    obtain ⟨n, v⟩ := x
    have nd2 := (List.nodup_cons.mp nd).2
    unfold bindC
    split <;> exact ih nd2 _
  | swap x y l =>
    intro nd m
    obtain ⟨n, v⟩ := x
    obtain ⟨n', v'⟩ := y
    have ne : n' ≠ n := fun e => (List.nodup_cons.mp nd).1 (by rw [e]; exact List.mem_cons_self)
    show bindC kd ((n', v') :: (n, v) :: l) m = bindC kd ((n, v) :: (n', v') :: l) m
    unfold bindC
    unfold bindC
    by_cases h1 : kd n' = some .local <;> by_cases h2 : kd n = some .local <;> simp only [h1, h2, if_true, if_false]
    all_goals try rfl
    congr 1
    funext z
    by_cases e1 : z = n
    · subst e1
      simp [Ne.symm ne]
    · simp [e1]
  | trans p q ih1 ih2 =>
    intro nd m
    rw [ih1 nd m, ih2 ((p.map _).nodup_iff.mp nd) m]
section
variable {g : Bool} {P : Program} {w : World} {K : PySem.W.Frag} {mg : Str → Option Value} {base : Heap} {CX : CXT} {k : Nat} {f : Addr} {fd : FuncData} {ps : List Str} {sp : Sp}
theorem FnX.ok (F : FnX false P w K mg base CX k f fd ps sp) : FnOk P w K mg base CX k f fd ps sp :=
  ⟨F.lenG, fun B out t H args us vs Q E hr e b r h => F.runG B out t H args _ us vs Q E (fun z => nomatch z) hr e b (.refl _) r h⟩
theorem FnX.up {g' : Bool} (F : FnX g P w K mg base CX k f fd ps sp) (h : g = true → g' = true) : FnX g' P w K mg base CX k f fd ps sp :=
  ⟨F.lenG, fun B out t H args bs us vs Q E gu hr e b p r hs => F.runG B out t H args bs us vs Q E (fun z => gu (h z)) hr e b p r hs⟩
theorem FnX.mono {j : Nat} (F : FnX g P w K mg base CX j f fd ps sp) (h : j ≤ k) : FnX g P w K mg base CX k f fd ps sp :=
  ⟨F.lenG, fun B out t H args bs us vs Q E gu hr e b p r hs => F.runG B out t H args bs us vs Q E gu (hr.mono h) e b p r hs⟩
theorem okX {x qual : Str} {params : Arguments} {body : List Stmt} {scope : Scope} {dvs : List V} {kws : List (Str × V)} {N : List Str} (D : FunD K x qual params body scope dvs kws f fd) (S : FnScope N ps scope)
    (hlen : ∀ vs H Q E, sp vs H Q E → vs.length = ps.length)
    (hbody : ∀ (cdv : Value) (B : Around) (out : List Env) (t : Shared) (H : Hp) (vs : List V) (Q : VK) (E : XK), (g = true → B.guards = some []) → Room k (B.deeper (envOfC qual scope t.heap.objs.size f cdv)) → sp vs H Q E →
      ∃ tr, PSs (cxOf CX P w K mg base N qual scope f cdv B out t H E) body tr ∧ tr { nx := fun _ H' => Q .non H', rt := Q } (start N vs) H) :
    FnX g P w K mg base CX (k + 1) f fd ps sp := by
  obtain ⟨⟨oc, od, dV, kV, doc, pm, an, cdv, ct, osl, rfl, lk, hcd, _, _⟩, _⟩ := D
  constructor
  · exact hlen
  intro B out t H args bs us vs Q E hg hr env hb hperm rel hsp
  have hin : K.In t.heap := env.mod.kin.keeps fun b o q => (env.bs b o q).1
  have hno : t.heap.NoLimit := env.mod.nolimit.keeps fun b o q => (env.bs b o q).1
  have hll := hlen _ _ _ _ hsp
  have nd : (bs.map (·.1)).Nodup := by
    refine (hperm.map _).nodup_iff.mpr ?_
    rw [zip_names, List.take_of_length_le (by rw [← rel.length, hll]; exact Nat.le_refl _), ← S.pre]
    exact S.nd.sublist (List.take_sublist _ _)
  have hk : ∀ y ∈ bs, scope.names.lookup y.1 = some .local ∨
      (scope.names.lookup y.1 = some .cell ∧ ((cellsFrom (t.heap.objs.size + 1) scope.names []).lookup y.1).isSome = true) := by
    rintro ⟨n, v⟩ hy
    cases S.par n (List.of_mem_zip (hperm.mem_iff.mp hy)).1 with
    | inl q => exact .inl q
    | inr q => exact .inr ⟨q, PySem.W.cellsFrom_some _ _ _ (.inl q)⟩
  refine codeAny_call_function hr.depth (hin _ _ lk) rfl S.co S.gen rfl
    (PySem.W.codeRec_of hin hcd) (hb _ _ _ _ ?_)
  refine wpAny_newFunctionEnv_cells S.kind hk fun ev hev t1 ic => ?_
  subst hev
  rw [bindL_perm hperm nd, bindC_perm hperm nd] at ic
  refine ⟨hno.keeps ic.toInCall.keep, codeAny_func ?_⟩
  obtain ⟨tr, htr, hq⟩ := hbody cdv B out t H vs Q E hg (hr.deeper _) hsp
  have J : Inv (cxOf CX P w K mg base N qual scope f cdv B out t H E) [] (start N vs) H t1 :=
    inv_start S hr.hd env hll rel ic
  refine wpAny_mono (htr.run [] t1 (start N vs) H _ J hq) (fun fl t2 z => ?_) fun _ _ z => z
  cases fl with
  | next =>
    obtain ⟨s2, H2, J2, q2⟩ := z
    exact ⟨V.non, H2, J2.os, J2.bare, J2.base, J2.hok, rfl, q2⟩
  | ret u =>
    obtain ⟨v2, s2, H2, J2, r2, q2⟩ := z
    exact ⟨v2, H2, J2.os, J2.bare, J2.base, J2.hok, r2, q2⟩
  | brk =>
    obtain ⟨_, _, _, q2⟩ := z
    cases q2
  | cont =>
    obtain ⟨_, _, _, q2⟩ := z
    cases q2
end
section
variable {X : Cx} {g : Bool} {CX : CXT} {k n : Nat} {f : Addr} {fd : FuncData} {ps ps' ks : List Str} {sp : Sp} {ds : List Value} {dvs : List V} {E : XK}
theorem runX_fn {pins : List (Addr × Obj)} {σ : L2.St} {H : Hp} {s : Shared} {Q : VK} {us : List Value} {vs : List V} (F : FnX g X.prog X.w X.K X.mg X.base CX k f fd ps sp) (hg : g = true → X.A.guards = some []) (hr : Room k X.A)
    (hb : Binds X.K fd ps ds) (hd : Vals dvs ds) (hx : Passes CX X E) (I : Inv X pins σ H s) (r : Vals vs us) (h : sp (vs ++ dvs) H Q E) :
    wpAny (model X.prog X.w) X.A (call (.ref f) us) (EP X pins σ Q) X.xe s := by
  have rr : Vals (vs ++ dvs) (us ++ ds) := r.append hd
  have ll : (us ++ ds).length = ps.length := rr.length.symm.trans (F.lenG _ _ _ _ h)
  have go := F.runG X.A X.stack s H ⟨us, []⟩ _ (us ++ ds) (vs ++ dvs) Q E hg hr I.env0 (hb s us I.kIn ll) (.refl _) rr h
  refine wpAny_call (codeAny_mono go fun res s' hq => ?_)
  match res, hq with
  | .error e, hq => exact hx pins σ H s e s' I hq
  | .ok (.ret u), hq => exact I.after hq
  | .ok .next, hq => cases hq
  | .ok .brk, hq => cases hq
  | .ok .cont, hq => cases hq
theorem pe_callX {x : Str} {e : Expr} {es : List Expr} {t : TA} {p pos : Pos} (F : FnX g X.prog X.w X.K X.mg X.base CX k f fd ps sp) (hgu : g = true → X.A.guards = some []) (hr : Room k X.A) (hg : Gl X x) (hm : X.mg x = some (.ref f))
    (hk : PySem.W.keepIn X.K (.ref f) = true) (hb : Binds X.K fd ps ds) (hd : Vals dvs ds) (hx : Passes CX X E)
    (ha : PA X (e :: es) t) (hdb : (x == ("__debug__" : Str)) = false := by decide) (he : starEach (e :: es) X.env = (false, eval e X.env) :: starEach es X.env := by rfl)
    (hpl : (backTo pos (starEach es X.env)).any (·.1) = false := by rfl) : PE X (.Call (.Name x p) (e :: es) [] pos) (tCall sp dvs E t) := by
  constructor
  intro pins s σ H Q I h
  refine wpAny_Call_Name_kw (ld_glob I hg hm ?_ hdb)
  have body := thn (ha.run pos pins s σ H _ I h) (Q' := fun us s1 => X.K.In s1.heap ∧ wpAny (model X.prog X.w) X.A (call (.ref f) us) (EP X pins σ Q) X.xe s1)
    fun us s1 ⟨vs, H1, I1, r1, q1⟩ => ⟨I1.kIn, runX_fn F hgu hr hb hd hx I1 r1 q1⟩
  exact PySem.W.callWith_K (h₀ := X.base) I.ok.mod.kin hk body he hpl
/-- f(e, .., k = v, ..): bound as ps' says, turned by π to the parameters' order -/
theorem runX_kw {pins : List (Addr × Obj)} {σ : L2.St} {H : Hp} {s : Shared} {Q : VK} {us ws : List Value} {vs zs : List V} {gU : List Value → List Value → List Value} {gV : List V → List V → List V} (π : {α : Type} → List α → List α)
    (F : FnX g X.prog X.w X.K X.mg X.base CX k f fd ps sp) (hg : g = true → X.A.guards = some []) (hr : Room k X.A) (hb : KBn X.K fd ps' n ks gU gV) (hx : Passes CX X E)
    (h1 : ∀ vs us, Vals vs us → Vals (π vs) (π us)) (h2 : ∀ us : List Value, us.length = ps'.length → (ps'.zip us).Perm (ps.zip (π us)))
    (I : Inv X pins σ H s) (r : Vals vs us) (rz : Vals zs ws) (l1 : vs.length = n) (l2 : zs.length = ks.length) (l3 : (gV vs zs).length = ps'.length) (h : sp (π (gV vs zs)) H Q E) :
    wpAny (model X.prog X.w) X.A (call (.ref f) us (ks.zip ws)) (EP X pins σ Q) X.xe s := by
  have rr := hb.rel r rz
  have go := F.runG X.A X.stack s H ⟨us, ks.zip ws⟩ _ (π (gU us ws)) (π (gV vs zs)) Q E hg hr I.env0 (hb.to s us ws I.kIn (r.length.symm.trans l1) (rz.length.symm.trans l2)) (h2 _ (rr.length.symm.trans l3)) (h1 _ _ rr) h
  refine wpAny_call (codeAny_mono go fun res s' hq => ?_)
  match res, hq with
  | .error e, hq => exact hx pins σ H s e s' I hq
  | .ok (.ret u), hq => exact I.after hq
  | .ok .next, hq => cases hq
  | .ok .brk, hq => cases hq
  | .ok .cont, hq => cases hq
def tCallP (n m l : Nat) (π : {α : Type} → List α → List α) (sp : Sp) (gV : List V → List V → List V) (E : XK) (t tk : TA) : TE := fun σ H Q => t σ H fun vs H1 => tk σ H1 fun zs H2 => vs.length = n ∧ zs.length = m ∧ (gV vs zs).length = l ∧ sp (π (gV vs zs)) H2 Q E
theorem pe_callP {x : Str} {e : Expr} {es : List Expr} {kws : List Keyword} {t tk : TA} {p pos : Pos} {gU : List Value → List Value → List Value} {gV : List V → List V → List V} (π : {α : Type} → List α → List α)
    (F : FnX g X.prog X.w X.K X.mg X.base CX k f fd ps sp) (hgu : g = true → X.A.guards = some []) (hr : Room k X.A) (hg : Gl X x) (hm : X.mg x = some (.ref f))
    (hk : PySem.W.keepIn X.K (.ref f) = true) (hb : KBn X.K fd ps' n ks gU gV) (hx : Passes CX X E) (h1 : ∀ vs us, Vals vs us → Vals (π vs) (π us)) (h2 : ∀ us : List Value, us.length = ps'.length → (ps'.zip us).Perm (ps.zip (π us)))
    (ha : PA X (e :: es) t) (hkw : PK X kws tk) (hall : (backToKw pos (keywordEach kws X.env)).all (·.1.isSome) = true := by rfl) (hks : (backToKw pos (keywordEach kws X.env)).filterMap (·.1) = ks := by rfl)
    (hdb : (x == ("__debug__" : Str)) = false := by decide) (he : starEach (e :: es) X.env = (false, eval e X.env) :: starEach es X.env := by rfl)
    (hpl : ((backTo pos (starEach (e :: es) X.env)).any (·.1) || (backToKw pos (keywordEach kws X.env)).any (·.1.isNone)) = false := by rfl) :
    PE X (.Call (.Name x p) (e :: es) kws pos) (tCallP n ks.length ps'.length π sp gV E t tk) := by
  constructor
  intro pins s σ H Q I h
  refine wpAny_Call_Name_kw (ld_glob I hg hm ?_ hdb)
  refine PySem.W.callWith_KW (h₀ := X.base) I.ok.mod.kin hk hall
    (thn (ha.run pos pins s σ H _ I h) ?_) hpl he
  rintro us s1 ⟨vs, H1, I1, r1, q1⟩
  refine thn (hkw.run pos pins s1 σ H1 _ I1 q1) ?_
  rintro ws s2 ⟨zs, H2, I2, r2, l1, l2, l3, q2⟩
  refine ⟨I2.kIn, ?_⟩
  subst hks
  exact runX_kw π F hgu hr hb hx h1 h2 I2 r1 r2 l1 l2 l3 q2
end
/-- some places of a list -/
def pickL {α : Type} (is : List Nat) (l : List α) : List α := is.filterMap fun i => l[i]?
theorem pickL_vals {vs : List V} {us : List Value} (r : Vals vs us) : ∀ is : List Nat, Vals (pickL is vs) (pickL is us)
  | [] => .nil
  | i :: is => by
    unfold pickL
    cases e : vs[i]? with
    | none =>
      rw [List.filterMap_cons, List.filterMap_cons, e, r.none_of e]
      exact pickL_vals r is
    | some v =>
      obtain ⟨u, hu, ru⟩ := r.get e
      rw [List.filterMap_cons, List.filterMap_cons, e, hu]
      exact .cons ru (pickL_vals r is)
theorem permAt {α : Type} : ∀ {l : List α} (i : Nat) {x : α}, l[i]? = some x → l.Perm (x :: l.eraseIdx i)
  | [], i, x, h => by simp at h
  | y :: l, 0, x, h => by
    have e : y = x := Option.some.inj h
    subst e
    exact .refl _
  | y :: l, i + 1, x, h => (List.Perm.cons y (permAt (l := l) i (x := x) (by simpa using h))).trans (List.Perm.swap x y _)
/-! ### the law's end for such a def -/
theorem law_callN {ND : Heap → Prop} {P : Program} {w : World} {K : PySem.W.Frag} {mg mb : Str → Option Value} {CX : CXT} {k : Nat} {fa a : Addr} {fd : FuncData} {x : Str} {sp : Sp} {s1 : Shared} {vs : List Value} {ns : List Int}
    (KX : K.In s1.heap) (hns : s1.heap.Ns mainGlobals mg) (hb : s1.heap.Ns builtinsNs mb) (hbb : ∀ x : Str, x ≠ "__name__" → mb x = bootBuiltins x) (hlim : s1.heap.NoLimit) (hdig : ∀ h' : Heap, (∀ b o es ep, s1.heap.get? b = some o → o.data = .dict es ep → h'.get? b = some o) → ND h') (hg : s1.gens = #[])
    (ha : s1.heap.get? a = some { cls := .type "list", data := .seq vs.toArray }) (hi : IntsAre vs ns) (hl : ns.length ≤ sizeLine) (hr : Room k callerA)
    (F : ∀ base : Heap, K.In base → base.Ns mainGlobals mg → ND base → FnX true P w K mg base CX k fa fd [x] sp)
    (hbind : ∀ (s : Shared) (u : Value), BindsTo s fd ⟨[u], []⟩ [(x, u)])
    (hsp : ∀ H : Hp, SqL K H a (ns.map V.int) → sp [.ref a] H (fun v _ => v = .bl true) fun _ _ _ => False)
    (hCX : ∀ H e s', CX [] H s1 (fun _ _ _ => False) e s' → False) :
    codeAny (model P w) callerA (.call (.ref fa) ⟨[.ref a], []⟩) (fun r s' => r = .ok (.ret (.bool true)) ∧ OldK s1.heap s'.heap ∧ s'.os = s1.os ∧ AllBare s'.gens) s1 := by
  have rv := vals_ints hi
  -- the abstract heap: the script alone, locked, unless it is one of the module's own objects
  obtain ⟨H, hS, hok, hA, hK, hO⟩ : ∃ H : Hp, SqL K H a (ns.map V.int) ∧ HOk P w H s1.heap ∧ (∀ b, H b ≠ none → b = a) ∧ (H a ≠ none → K.lookup a = none) ∧
      ∀ b u, H b = some u → ∃ o v, u = .frz o v := by
    cases hk : K.lookup a with
    | some o =>
      have e := KX a o hk
      rw [ha] at e
      cases e
      refine ⟨fun _ => none, .inr ⟨_, vs.toArray, _, hk, rfl, rfl, rfl, ?_, by simpa using rv⟩, ?_, ?_, ?_, ?_⟩
      · rw [List.size_toArray, hi.length]
        exact hl
      · intro b u z
        cases (show (none : Option HO) = some u from z)
      · intro b z
        exact absurd rfl z
      · intro z
        exact absurd rfl z
      · intro b u z
        cases (show (none : Option HO) = some u from z)
    | none =>
      have at1 : upd (fun _ => none) a (.frz { cls := .type "list", data := .seq vs.toArray } (.lst (ns.map V.int))) a = some (HO.frz { cls := .type "list", data := .seq vs.toArray } (.lst (ns.map V.int))) := upd_same
      have at2 : ∀ b u, upd (fun _ => none) a (.frz { cls := .type "list", data := .seq vs.toArray } (.lst (ns.map V.int))) b = some u → b = a ∧ u = HO.frz { cls := .type "list", data := .seq vs.toArray } (.lst (ns.map V.int)) := by
        intro b u z
        by_cases q : b = a
        · subst q
          rw [upd_same] at z
          exact ⟨rfl, (Option.some.inj z).symm⟩
        · rw [upd_ne q] at z
          cases z
      refine ⟨_, .inl (.inr ⟨_, at1⟩), ?_, ?_, fun _ => rfl, ?_⟩
      · intro b u z
        obtain ⟨rfl, rfl⟩ := at2 b u z
        refine ⟨ha, ?_, vs, _, rv, ha⟩
        rw [List.length_map]
        exact hl
      · intro b z
        cases q : upd (fun _ => none) a (.frz { cls := .type "list", data := .seq vs.toArray } (.lst (ns.map V.int))) b with
        | none => exact absurd q z
        | some u => exact (at2 b u q).1
      · intro b u z
        exact ⟨_, _, (at2 b u z).2⟩
  have off : ∀ {b : Addr} {o : Obj} {es : Array DictEntry} {ep : Nat}, s1.heap.get? b = some o → o.data = .dict es ep → H b = none := by
    intro b o es ep e d
    cases q : H b with
    | none => rfl
    | some u =>
      have z : b = a := hA b (by rw [q]; simp)
      subst z
      rw [ha] at e
      cases e
      cases (show Data.seq vs.toArray _ = Data.dict es ep from d)
  have nsH : ∀ {b : Addr} {m : Str → Option Value}, s1.heap.Ns b m → (hidT s1.heap H).Ns b m := by
    rintro b m ⟨o, es, ep, e, d, r⟩
    exact ⟨o, es, ep, hidT_get e (off e d), d, r⟩
  have hKb : K.In (hidT s1.heap H) := by
    intro b o e
    refine hidT_get (KX b o e) ?_
    cases q : H b with
    | none => rfl
    | some u =>
      have z : b = a := hA b (by rw [q]; simp)
      subst z
      rw [hK (by rw [q]; simp)] at e
      cases e
  have hM : Mod K mg (hidT s1.heap H) := by
    obtain ⟨mc, h1, h2⟩ := hlim
    exact ⟨hKb, nsH hns, ⟨mb, nsH hb, hbb⟩, ⟨mc, nsH h1, h2⟩⟩
  have e0 : Env0 P w K mg (hidT s1.heap H) callerA [] s1 H := by
    refine ⟨rfl, hM, fun b o e => of_hidT e, Nat.le_of_eq (hidT_size _ _), trivial, fun b hb => ?_, hok, .of_eq hg⟩
    cases (show b ∈ ([] : List Addr) from hb)
  have go := (F _ hKb (nsH hns) (hdig _ fun b o es ep e d => hidT_get e (off e d))).runG callerA [] s1 H ⟨[.ref a], []⟩ _ [.ref a] [.ref a] _ _ (fun _ => rfl) hr e0 (hbind s1 (.ref a)) (.refl _) (.cons rfl .nil) (hsp H hS)
  refine codeAny_mono go fun res s' h => ?_
  match res, h with
  | .error e, h => exact (hCX H e s' h).elim
  | .ok .next, h => cases h
  | .ok .brk, h => cases h
  | .ok .cont, h => cases h
  | .ok (.ret u), h =>
    obtain ⟨v, H', os, bare, un, hok', r', q⟩ := h
    cases (show v = .bl true from q)
    cases (show u = Value.bool true from r')
    refine ⟨rfl, OldK.of_keep fun b o e => ?_, os, bare⟩
    cases q : H b with
    | none =>
      refine un.keep b o e q (fun z => ?_) (by simp)
      cases (show b ∈ ([] : List Addr) from z)
    | some u =>
      obtain ⟨ob, v2, rfl⟩ := hO b u q
      have z2 := un.frzs b ob _ q
      obtain ⟨e1, _⟩ := hok b _ q
      obtain ⟨e2, _⟩ := hok' b _ z2
      rw [e] at e1
      cases e1
      exact e2
theorem nd_keep {h h' : Heap} (x : h.NoDigits) (k : ∀ b o es ep, h.get? b = some o → o.data = .dict es ep → h'.get? b = some o) : h'.NoDigits := by
  obtain ⟨mc, ⟨o, es, ep, e, d, r⟩, q⟩ := x
  exact ⟨mc, ⟨o, es, ep, k _ _ _ _ e d, d, r⟩, q⟩
theorem walk_G {l : PySem.W.OpenLaw} {n k : Nat} {q : Program} {loose : List Str} {XP : (Str → Option Value) → Heap → Prop} {YP : World → Heap → Prop} {d : DefRec} {CX : World → CXT} {x : Str}
    (hn : l.most = some n) (hn2 : n ≤ sizeLine) (hdf : d.params.defaults = []) (hr : Room k callerA)
    (F : ∀ (w : World) (mg : Str → Option Value) (fa : Addr) (h : Heap), YP w h → h.Ns mainGlobals mg → mg d.name = some (.ref fa) →
      ∃ (K : PySem.W.Frag) (fd : FuncData) (sp : Sp), K.In h ∧ (∀ (s : Shared) (u : Value), BindsTo s fd ⟨[u], []⟩ [(x, u)]) ∧
        (∀ (H : Hp) (a : Addr) (ns : List Int), ns.length ≤ n → SqL K H a (ns.map V.int) → sp [.ref a] H (fun v _ => v = .bl true) fun _ _ _ => False) ∧
        ∀ base : Heap, K.In base → base.Ns mainGlobals mg → base.NoDigits → FnX true l.prog w K mg base (CX w) k fa fd [x] sp)
    (hCX : ∀ (w : World) (H : Hp) (s : Shared) (e : Value) (s' : Shared), CX w [] H s (fun _ _ _ => False) e s' → False) :
    PySem.W.WalkO q loose XP YP l.row.toRowW d [] (fun f vs => PySem.call f vs) := by
  refine Att.attach_call hn hdf ?_
  intro w s0 s1 mg mb fa o pm cd doc a vs ns G Y ho hd hcd hmg hobj hints hlen hgen
  obtain ⟨K, fd, sp, KX, hb, hsp, hF⟩ := F w mg fa _ Y G.T.g hmg
  exact law_callN KX G.T.g G.T.b G.T.builtins G.T.nolimit (fun h' k => nd_keep G.T.nodigits k) hgen hobj hints
    (Nat.le_trans hlen hn2) hr hF hb (fun H hS => hsp H a ns hlen hS) (fun H e s' => hCX w H s1 e s')
end RC

namespace RC
open PySem PySem.Spec PySem.Calls PySem.NumText PyProof.Rows L2
theorem wp_maxDigits {M : Model} {A : Around} {E : Value → Shared → Prop} {s : Shared} {Q : Nat → Shared → Prop} (hn : s.heap.NoDigits) (h : Q 4300 s) : wpAny M A Builtin.intMaxStrDigits Q E s := by
  obtain ⟨mc, hns, hnone⟩ := hn
  unfold Builtin.intMaxStrDigits
  refine wpAny_bind (wpAny_nsGet hns ?_)
  rw [hnone]
  exact wpAny_pure h
theorem wp_textL {M : Model} {A : Around} {E : Value → Shared → Prop} {s : Shared} {Q : Value → Shared → Prop} {v : Value} {text : List Nat} {n : Int} (hd : s.heap.NoDigits)
    (hs : ¬ (text.takeWhile (· != 0)).length ≤ 640) (hr : (int_private% "readNumeral") 4300 10 (text.takeWhile (· != 0)) = (int_private% "Numeral.value") n)
    (ha : ((text.takeWhile (· != 0)).length == text.length) = true) (h : Q (.int n s.toks) { s with toks := s.toks + 1 }) :
    wpAny M A ((int_private% "intFromText") v text 10) Q E s := by
  obtain ⟨hp, g, d, tk, os⟩ := s
  repeat (any_goals (first
    | assumption
    | (with_reducible refine wpAny_ite_false (decide_eq_false hs) ?_)
    | (with_reducible refine wpAny_ite_true (decide_eq_true ha) ?_)
    | (with_reducible refine wp_maxDigits hd ?_)
    | wp_step))
  all_goals (try rw [hr])
  all_goals (try dsimp only)
  repeat (any_goals (first
    | assumption
    | (with_reducible refine wpAny_ite_true (decide_eq_true ha) ?_)
    | wp_step))
structure HidL (p : Prop) : Prop where
  out : p
theorem meets_textL {x : PySem.Str} {u : Tok} {n : Int} (hl : ¬ (numSeenOf x).length ≤ 640) (hz : x.length ≤ sizeLine) (hn : PySem.intText? x = some n) :
    Meets (Builtin.«int.__new__» ⟨[.type "int", .str x u], []⟩) (fun _ R s => s.heap.NoDigits ∧ R (.ok (.ret (.int n s.toks))) { s with toks := s.toks + 1 }) := by
  intro prog w A R s h
  obtain ⟨hd, h⟩ := h
  refine wpAny_mono (Q := fun fin s' => ∃ v, fin = .done (.ret v) ∧ R (.ok (.ret v)) s') ?_ (fun fin s' h' => by obtain ⟨v, rfl, hv⟩ := h'; exact hv) fun _ _ x => x
  obtain ⟨hp, g, d, tk, os⟩ := s
  have f1 := F.conv_sub_int
  have f2 := F.madeHere_int
  have f3 := PySem.W.KIN.str_int
  have f4 := PySem.W.KIN.str_idx
  have f5 := PySem.W.KIN.str_trunc
  have f6 : typeOf (.str x u) = pure (.type "str") := rfl
  have hr : (int_private% "readNumeral") 4300 10 (numSeenOf x) = (int_private% "Numeral.value") n ∧ ((numSeenOf x).length == (numTextOf x).length) = true := by
    rcases read4300 x hz with ⟨m, h1, h2, h3⟩ | ⟨h1, _⟩
    · rw [hn] at h1
      injection h1 with h1
      subst h1
      exact ⟨h3, h2⟩
    · rw [hn] at h1
      cases h1
  have hk := HidL.mk (And.intro hl hr)
  have hh := HidL.mk hd
  clear hl hr hn hz hd
  repeat (any_goals (first
    | assumption
    | ((with_reducible show wpAny _ _ ((int_private% "intFromText") _ _ _) _ _ _); refine wp_textL hh.out hk.out.1 hk.out.2.1 hk.out.2.2 ?_)
    | wp_step))
  all_goals first | exact ⟨_, rfl, h⟩ | skip
/-- int(text), of plain signs -/
def rIntT : List V → Hp → VK → Prop := fun xs H Q => ∃ a n, xs = [.str a] ∧ PySem.intText? a = some n ∧ a.cps.all (· < 128) = true ∧ a.length ≤ sizeLine ∧ Q (.int n) H
theorem cr_intT {X : Cx} (nd : X.base.NoDigits) : CallR X (.type "int") rIntT := by
  intro pins s σ H xs us Q I rs h
  obtain ⟨a, n, rfl, hn, ha, hz, h⟩ := h
  cases rs with
  | cons r1 rs =>
    cases rs
    obtain ⟨t, rfl⟩ := r1
    by_cases hl : a.length ≤ 640
    · exact PySem.W.KIN.call_text hn hl ⟨.int n, H, I.tok _, ⟨_, rfl⟩, h⟩
    · have e : numTextOf a = a.cps.toList := if_pos ha
      have hs : ¬ (numSeenOf a).length ≤ 640 := by
        rcases read4300 a hz with ⟨m, h1, h2, h3⟩ | ⟨h1, _⟩
        · have z := eq_of_beq h2
          rw [z, e, Array.length_toList]
          exact hl
        · rw [hn] at h1
          cases h1
      exact call_int_1 (meets_textL hs hz hn) ⟨nd.keeps fun b o q => (I.env0.bs b o q).1, rfl, ⟨.int n, H, I.tok _, ⟨_, rfl⟩, h⟩⟩
/-- a text of one sign, times a number -/
def rRepS : R2 := fun x y H Q => ∃ (c : Nat) (n : Int), x = .str (SX.S [c]) ∧ y = .int n ∧ 1 ≤ n ∧ n ≤ 100000 ∧ Q (.str (SX.S (List.replicate n.toNat c))) H
theorem rep_one (c : Nat) : ∀ (k : Nat) (acc : Array Nat), (List.replicate k #[c]).foldl (· ++ ·) acc = acc ++ (List.replicate k c).toArray
  | 0, acc => by simp
  | k + 1, acc => by
    rw [List.replicate_succ, List.foldl_cons, rep_one c k, List.replicate_succ]
    refine Array.toList_inj.mp ?_
    simp only [Array.toList_append, List.toList_toArray, List.append_assoc]
    rfl
theorem op_repS {X : Cx} : OpR X (binaryOp .Mult) rRepS := by
  intro pins s σ H x y v u Q I rx ry h
  obtain ⟨c, n, rfl, rfl, h1, h2, q⟩ := h
  obtain ⟨t, rfl⟩ := rx
  obtain ⟨t2, rfl⟩ := ry
  have hl : (SX.S [c]).length = 1 := SX.S_len [c]
  refine PySem.P.mul_str (by rw [decide_eq_false (by omega), decide_eq_false (by omega)]; rfl) (fun _ _ => ?_) (fun _ _ => ?_) ?_
  · rw [hl]
    have : (1 : Int) ≤ (2 ^ 63 - 1) / n := (Int.le_ediv_iff_mul_le (by omega)).mpr (by omega)
    omega
  · rw [hl]
    unfold Builtin.Str.tooLong
    rw [decide_eq_false]
    have := sizeLine_eq
    omega
  · rw [if_neg (by omega)]
    by_cases e : n = 1
    · subst e
      rw [if_pos (by rfl)]
      exact ⟨.str _, H, I, ⟨_, rfl⟩, q⟩
    · rw [if_neg (by rw [hl]; simp [e])]
      have e2 : (⟨(List.replicate n.toNat (SX.S [c]).cps).foldl (· ++ ·) #[]⟩ : Str) = SX.S (List.replicate n.toNat c) := by
        show (⟨(List.replicate n.toNat #[c]).foldl (· ++ ·) #[]⟩ : Str) = _
        rw [rep_one]
        simp
      rw [e2]
      refine ⟨?_, ⟨.str _, H, I.tok _, ⟨_, rfl⟩, q⟩⟩
      rw [SX.S_len, List.length_replicate]
      have := sizeLine_eq
      omega
end RC

namespace RC
open PySem PySem.Spec PyProof.Rows L2
/-! ### rules for any kinds of operands -/
section
variable {X : Cx}
/-- two lists, each of any standing -/
def rCatS (K : PySem.W.Frag) : R2 := fun x y H Q => ∃ l b xs zs, x = .ref l ∧ y = .ref b ∧ SqL K H l xs ∧ SqL K H b zs ∧ xs.length + zs.length ≤ sizeLine ∧ ∀ p, H p = none → Q (.ref p) (upd H p (.lst (xs ++ zs)))
theorem op_catS : OpR X (binaryOp .Add) (rCatS X.K) := by
  intro pins s σ H x y v u Q I rx ry h
  obtain ⟨l, b, xs, zs, rfl, rfl, hH, hB, hz, q⟩ := h
  cases rx
  cases ry
  obtain ⟨its, r, ⟨⟨cls, dd, data, sl⟩, n, ho, hc, _, hd⟩, _⟩ := I.list hH
  obtain ⟨its2, r2, ⟨⟨cls2, dd2, data2, sl2⟩, n2, ho2, hc2, _, hd2⟩, _⟩ := I.list hB
  simp only at hc hd hc2 hd2
  subst hc hd hc2 hd2
  have ea : its.toArray ++ its2.toArray = (its ++ its2).toArray := by simp
  have l1 := r.length
  have l2 := r2.length
  refine concat_meets ⟨_, ho, rfl⟩ ⟨_, ho2, rfl⟩ noFill_list_add seq_list_add PySem.F.slot_list_add PySem.F.entry_list_add (PySem.F.args_list_add_2 _ _) (list_addW l b its.toArray its2.toArray n n2 dd dd2 sl sl2 (by rw [List.size_toArray, List.size_toArray]; omega)) ⟨ho, ho2, ?_⟩
  rw [ea]
  exact ⟨.ref _, _, I.lnew (t' := s.toks) (r.append r2) (by rw [List.length_append]; omega), rfl, q _ I.fresh⟩
def uAdd (K : PySem.W.Frag) : R2 := fun x y H Q => rI0 (fun i j => .int (i + j)) x y H Q ∨ (∃ i j, x = .str i ∧ y = .str j ∧ i.length + j.length ≤ sizeLine ∧ Q (.str (i ++ j)) H) ∨ rCatS K x y H Q ∨ rCatT K x y H Q
theorem uo_add : OpR X (binaryOp .Add) (uAdd X.K) := op_add.or (op_add_str.or (op_catS.or op_catT))
def uSub : R2 := rI0 fun i j => .int (i - j)
theorem uo_sub : OpR X (binaryOp .Sub) uSub := op_sub
def uMul : R2 := fun x y H Q => rI CMul (fun i j => .int (i * j)) x y H Q ∨ rI CMulW (fun i j => .int (i * j)) x y H Q ∨ rRep x y H Q ∨ rRepS x y H Q
theorem uo_mul : OpR X (binaryOp .Mult) uMul := op_mul.or (op_mulW.or (op_rep.or op_repS))
def uMod : R2 := rI (fun _ j => 0 < j) fun i j => .int (i % j)
theorem uo_mod : OpR X (binaryOp .Mod) uMod := op_mod
def uDiv : R2 := rI CDivW fun i j => .int (i / j)
theorem uo_div : OpR X (binaryOp .FloorDiv) uDiv := op_fdivW
def uPow : R2 := rI CPow fun i j => .int (i ^ j.toNat)
theorem uo_pow : OpR X (binaryOp .Pow) uPow := op_pow
/-- op= -/
def iAdd : R2 := fun x y H Q => rI0 (fun i j => .int (i + j)) x y H Q ∨ rExt2 x y H Q
theorem io_add : OpR X (inplaceOp .Add) iAdd := iop_add.or iop_ext
def iSub : R2 := rI0 fun i j => .int (i - j)
theorem io_sub : OpR X (inplaceOp .Sub) iSub := iop_sub
def iMul : R2 := rI CMul fun i j => .int (i * j)
theorem io_mul : OpR X (inplaceOp .Mult) iMul := iop_mul
def iDiv : R2 := rI CDiv fun i j => .int (i / j)
theorem io_div : OpR X (inplaceOp .FloorDiv) iDiv := iop_fdiv
/-- == and != of scalars, of data -/
def uEq (K : PySem.W.Frag) : R2 := fun x y H Q => rEq x y H Q ∨ rEqD K x y H Q
theorem uo_eq (hu : X.A.units + 64 < cLine) : OpR X (compareOp .Eq) (uEq X.K) := op_eq.or (op_eqD hu)
def uNe (K : PySem.W.Frag) : R2 := fun x y H Q => rNe x y H Q ∨ rNeD K x y H Q
theorem uo_ne (hu : X.A.units + 64 < cLine) : OpR X (compareOp .NotEq) (uNe X.K) := op_ne.or (op_neD hu)
def uLt : R2 := rI0 fun i j => .bl (decide (i < j))
def uLe : R2 := rI0 fun i j => .bl (decide (i ≤ j))
def uGt : R2 := rI0 fun i j => .bl (decide (j < i))
def uGe : R2 := rI0 fun i j => .bl (decide (j ≤ i))
theorem uo_lt : OpR X (compareOp .Lt) uLt := op_lt
theorem uo_le : OpR X (compareOp .LtE) uLe := op_le
theorem uo_gt : OpR X (compareOp .Gt) uGt := op_gt
theorem uo_ge : OpR X (compareOp .GtE) uGe := op_ge
/-- o[i] by values, o[i] = v by values: lists, dicts -/
def gIx (K : PySem.W.Frag) : V → V → Hp → VK → Prop := fun o i H Q => (∃ (p : Addr) (xs : List V) (n : Int) (v : V), o = .ref p ∧ i = .int n ∧ SqL K H p xs ∧ 0 ≤ n ∧ xs[n.toNat]? = some v ∧ Q v H) ∨ ∃ p v, o = .ref p ∧ DGet H p i (some v) ∧ Q v H
theorem get_any (hu : X.A.units + 1 < cLine) : PGet X (gIx X.K) := by
  intro pins s σ H o i ov iv Q I r1 r2 h
  rcases h with ⟨p, xs, n, v, rfl, rfl, hs, h0, hx, q⟩ | ⟨p, v, rfl, hd, q⟩
  · cases (show ov = Value.ref p from r1)
    obtain ⟨tk, rfl⟩ := r2
    obtain ⟨its, rv, pl, hz⟩ := I.list hs
    obtain ⟨u, hu, ru⟩ := rv.get hx
    have hlt : n.toNat < xs.length := (List.getElem?_eq_some_iff.mp hx).1
    have hle : n < 2 ^ 63 := by
      have := line63
      omega
    exact wpAny_getItem_list pl.isList h0 hle (by simpa using hu) ⟨v, H, I, ru, q⟩
  · cases (show ov = Value.ref p from r1)
    exact d_getItem hu I hd r2 fun w' s' I' rw' => ⟨v, H, I', rw', q⟩
def uSet : V → V → V → Hp → (Hp → Prop) → Prop := fun o i v H Q => rSetL o i v H Q ∨ ∃ p H', o = .ref p ∧ DPut H p i v H' ∧ Q H'
theorem set_any (hu : X.A.units + 1 < cLine) : PSet X uSet := by
  intro pins s σ H o i v ov iv u Q I r1 r2 r3 h
  rcases h with h | ⟨p, H', rfl, hd, q⟩
  · exact set_list pins s σ H o i v ov iv u Q I r1 r2 r3 h
  · cases (show ov = Value.ref p from r1)
    exact d_setItem hu I hd r2 r3 fun s' I' => ⟨H', I', q⟩
theorem ip_of {op : Operator} {r : R2} (h : OpR X (inplaceOp op) r) : PIp X op r := fun pins s σ H x y v u Q I a b q => h pins s σ H x y v u Q I a b q
/-- repr of data -/
def rRepr (K : PySem.W.Frag) : List V → Hp → VK → Prop := fun xs H Q => ∃ v d, xs = [v] ∧ Dp K H v d ∧ d.showable = true ∧ d.canLay0 = true ∧ d.depth ≤ 60 ∧ d.shown.length ≤ sizeLine ∧ Q (.str d.shown) H
theorem cr_repr (hg : X.A.guards = some []) (hu : X.A.units + 64 < cLine) : CallR X (.builtin "repr") (rRepr X.K) := by
  intro pins s σ H xs us Q I r h
  obtain ⟨v, d, rfl, hd, hs, hc, hp, hz, q⟩ := h
  obtain ⟨u, rfl, ru⟩ := vals1 r
  obtain ⟨as, rd⟩ := Dp.reads I d v u hd ru
  cases hd with
  | non =>
    cases (show u = Value.none from ru)
    refine PySem.P.repr_of_none ⟨.str _, H, I.tok _, ⟨_, rfl⟩, ?_⟩
    simpa only [PyData.shown] using q
  | bl b =>
    cases (show u = Value.bool b from ru)
    refine PySem.P.repr_of_bool ⟨.str _, H, I.tok _, ⟨_, rfl⟩, ?_⟩
    simpa only [PyData.shown] using q
  | int i =>
    obtain ⟨t, rfl⟩ := ru
    refine PySem.P.repr_of_int (by simpa [PyData.showable] using hs) ⟨.str _, H, I.tok _, ⟨_, rfl⟩, ?_⟩
    simpa only [PyData.shown] using q
  | str x =>
    obtain ⟨t, rfl⟩ := ru
    refine PySem.P.repr_of_str ⟨.str _, H, I.tok _, ⟨_, rfl⟩, ?_⟩ (by simpa only [PyData.shown] using hz)
    simpa only [PyData.shown] using q
  | lst h1 h2 =>
    rename_i a ys ds
    cases (show u = Value.ref a from ru)
    exact repr_of_reads' rd hs (PyData.noDict_hsm (PyData.hasDict_of_canLay _ hc)) hg (by omega) (fun _ _ e => e) (fun h' u tk k => ⟨.str _, H, I.kept k, ⟨_, rfl⟩, q⟩) hz
  | tup h1 h2 =>
    rename_i a ys ds
    cases (show u = Value.ref a from ru)
    exact repr_of_reads' rd hs (PyData.noDict_hsm (PyData.hasDict_of_canLay _ hc)) hg (by omega) (fun _ _ e => e) (fun h' u tk k => ⟨.str _, H, I.kept k, ⟨_, rfl⟩, q⟩) hz
/-- len -/
def uLen (K : PySem.W.Frag) : List V → Hp → VK → Prop := fun xs H Q => (∃ x n, xs = [x] ∧ LenV K x H n ∧ Q (.int n) H) ∨ ∃ d kvs, xs = [.ref d] ∧ Rd H d (.dK kvs) ∧ Q (.int (kvs.length : Nat)) H
theorem call_lenRd : CallR X (.builtin "len") (fun xs H Q => ∃ a kvs, xs = [V.ref a] ∧ Rd H a (.dK kvs) ∧ Q (.int (kvs.length : Nat)) H) := by
  intro pins s σ H xs us Q I r h
  obtain ⟨a, kvs, rfl, ha, q⟩ := h
  obtain ⟨u, rfl, ru⟩ := vals1 r
  cases ru
  exact d_len I ha fun t s' I' => ⟨.int kvs.length, H, I', ⟨t, rfl⟩, q⟩
theorem cr_len : CallR X (.builtin "len") (uLen X.K) := call_len.or call_lenRd
/-- a constant of the module -/
theorem pe_globI {x : Str} {i : Int} {pos : Pos} (hg : Gl X x) (hm : ∃ t, X.mg x = some (.int i t)) (hd : (x == ("__debug__" : Str)) = false := by decide) : PE X (.Name x pos) (tC (.int i)) := by
  obtain ⟨t, hm⟩ := hm
  exact pe_glob hg hm ⟨t, rfl⟩ hd
theorem pe_globS {x z : Str} {pos : Pos} (hg : Gl X x) (hm : ∃ t, X.mg x = some (.str z t)) (hd : (x == ("__debug__" : Str)) = false := by decide) : PE X (.Name x pos) (tC (.str z)) := by
  obtain ⟨t, hm⟩ := hm
  exact pe_glob hg hm ⟨t, rfl⟩ hd
/-- o[i] -/
def uIx (K : PySem.W.Frag) : R2 := rIx K
theorem ix_any : IxR X (uIx X.K) := ix_seq
/-- slices of lists, tuples, texts -/
def uSl (K : PySem.W.Frag) : V → Option Int → Option Int → Hp → VK → Prop := fun x lo hi H Q => rSlL K x lo hi H Q ∨ rSlT K x lo hi H Q
theorem sl_any : SlR X (uSl X.K) := sl_list.or sl_tup
end
/-! ### readings, step by step -/
section
variable {K : PySem.W.Frag} {σ : L2.St} {H : Hp} {Q : VK} {D : Ends} {t u : TS} {te ta tb tc : TE} {tt : TT} {Rs : List Res} {E : XK}
theorem g_seq (k : t { D with nx := u D } σ H) : tSeq t u D σ H := k
theorem g_next (k : D.nx σ H) : tNext D σ H := k
theorem g_asg {i : Nat} (k : te σ H fun x H1 => D.nx (σ.set i (some x)) H1) : tAsg te (gName i) D σ H := k
theorem g_asgX {g : TG} (k : te σ H fun x H1 => g x σ H1 D.nx) : tAsg te g D σ H := k
theorem g_drop (k : te σ H fun _ H1 => D.nx σ H1) : tDrop te D σ H := k
theorem g_ret (k : te σ H D.rt) : tRet te D σ H := k
theorem g_retN (k : D.rt .non H) : tRetN D σ H := k
theorem g_if (k : tt σ H fun b H1 => if b = true then t D σ H1 else u D σ H1) : tIfS tt t u D σ H := k
theorem g_nx {f r b c} (k : f σ H) : (Ends.mk f r b c).nx σ H := k
theorem g_rt {f b c} {r : VK} {v : V} (k : r v H) : (Ends.mk f r b c).rt v H := k
theorem g_bk {f b c} {r : VK} (k : b σ H) : (Ends.mk f r b c).bk σ H := k
theorem g_ct {f b c} {r : VK} (k : c σ H) : (Ends.mk f r b c).ct σ H := k
theorem g_var {i : Nat} {v : V} (h : σ[i]? = some (some v)) (k : Q v H) : tVar i σ H Q := ⟨v, h, k⟩
theorem g_c {v : V} (k : Q v H) : tC v σ H Q := k
theorem g_op {r : R2} (k : ta σ H fun x H1 => tb σ H1 fun y H2 => r x y H2 Q) : tOp r ta tb σ H Q := k
theorem g_un {r : V → Hp → VK → Prop} (k : ta σ H fun x H1 => r x H1 Q) : tUn r ta σ H Q := k
theorem g_nil {Q : List V → Hp → Prop} (k : Q [] H) : tNil σ H Q := k
theorem g_cons {tr : TA} {Q : List V → Hp → Prop} (k : ta σ H fun x H1 => tr σ H1 fun xs H2 => Q (x :: xs) H2) : tCons ta tr σ H Q := k
theorem g_cb {r : List V → Hp → VK → Prop} {t : TA} (k : t σ H fun vs H1 => r vs H1 Q) : tCB r t σ H Q := k
theorem g_call {sp : Sp} {dvs : List V} {t : TA} (k : t σ H fun vs H1 => sp (vs ++ dvs) H1 Q E) : tCall sp dvs E t σ H Q := k
def LstK (Q : VK) : List V → Hp → Prop := fun xs H1 => xs.length ≤ sizeLine ∧ ∀ p, H1 p = none → Q (.ref p) (upd H1 p (.lst xs))
def TupK (Q : VK) : List V → Hp → Prop := fun xs H1 => xs.length ≤ sizeLine ∧ ∀ p, H1 p = none → Q (.ref p) (upd H1 p (.tup xs))
theorem g_lst {t : TA} (k : t σ H (LstK Q)) : tLst t σ H Q := k
theorem g_tup {t : TA} (k : t σ H (TupK Q)) : tTup t σ H Q := k
/-- a display is laid -/
theorem v_lst {xs : List V} (S : M Rs H) (hn : xs.length ≤ 100000) (k : ∀ p H', M (pt p (.lst xs) :: Rs) H' → Q (.ref p) H') : LstK Q xs H :=
  ⟨Nat.le_trans hn (by decide), fun p hp => k p _ (S.new hp)⟩
theorem v_tup {xs : List V} (S : M Rs H) (hn : xs.length ≤ 100000) (k : ∀ p H', M (pt p (.tup xs) :: Rs) H' → Q (.ref p) H') : TupK Q xs H :=
  ⟨Nat.le_trans hn (by decide), fun p hp => k p _ (S.new hp)⟩
theorem g_test {Q : Bool → Hp → Prop} (k : te σ H fun x H' => ∃ b, x = .bl b ∧ Q b H') : tTest te σ H Q := k
theorem g_B {Q : Bool → Hp → Prop} (k : te σ H fun x H' => ∃ b, x = .bl b ∧ Q b H') : tB te σ H Q := k
theorem g_bl {b : Bool} {Q : Bool → Prop} (k : Q b) : ∃ c, V.bl b = .bl c ∧ Q c := ⟨b, rfl, k⟩
theorem g_and {s : TT} {Q : Bool → Hp → Prop} (k : tt σ H fun c H1 => if c = true then s σ H1 Q else Q false H1) : tAnd tt s σ H Q := k
theorem g_or {s : TT} {Q : Bool → Hp → Prop} (k : tt σ H fun c H1 => if c = true then Q true H1 else s σ H1 Q) : tOr tt s σ H Q := k
theorem g_not {Q : Bool → Hp → Prop} (k : tt σ H fun c H1 => Q (!c) H1) : tNot tt σ H Q := k
theorem g_andV (k : ta σ H fun x H1 => ∃ c, x = .bl c ∧ if c = true then tb σ H1 Q else Q (.bl false) H1) : tAndV ta tb σ H Q := k
theorem g_orV (k : ta σ H fun x H1 => ∃ c, x = .bl c ∧ if c = true then Q (.bl true) H1 else tb σ H1 Q) : tOrV ta tb σ H Q := k
theorem g_notV (k : ta σ H fun x H1 => ∃ c, x = .bl c ∧ Q (.bl (!c)) H1) : tNotV ta σ H Q := k
theorem g_ifE (k : tt σ H fun c H1 => if c = true then ta σ H1 Q else tb σ H1 Q) : tIf tt ta tb σ H Q := k
theorem g_chain {r r' : R2} (k : ta σ H fun x H1 => tb σ H1 fun y H2 => r x y H2 fun z H3 => ∃ k, z = .bl k ∧ (if k = true then tc σ H3 fun w' H4 => r' y w' H4 Q else Q (.bl false) H3)) : tChain r r' ta tb tc σ H Q := k
theorem g_aug {i : Nat} {ti : TIp} {v : V} (h : σ[i]? = some (some v)) (k : te σ H fun y H1 => ti v y H1 fun z H2 => D.nx (σ.set i (some z)) H2) : tAug i te ti D σ H := ⟨v, h, k⟩
theorem g_augS {tget : V → V → Hp → VK → Prop} {tip : TIp} {tset : TSet} (k : ta σ H fun o H1 => tb σ H1 fun i H2 => tget o i H2 fun x H3 => te σ H3 fun y H4 => tip x y H4 fun z H5 => tset o i z H5 fun H6 => D.nx σ H6) :
    tAugS ta tb te tget tip tset D σ H := k
theorem g_sub {t3 : TSet} {v : V} {Q : L2.St → Hp → Prop} (k : ta σ H fun o H1 => tb σ H1 fun i H2 => t3 o i v H2 fun H3 => Q σ H3) : gSub ta tb t3 v σ H Q := k
theorem g_sl {r : V → Option Int → Option Int → Hp → VK → Prop} {tl th : TO} (k : te σ H fun x H1 => tl σ H1 fun l H2 => th σ H2 fun u H3 => r x l u H3 Q) : tSl r te tl th σ H Q := k
theorem g_noPart {Q : Option Int → Hp → Prop} (k : Q none H) : tNoPart σ H Q := k
theorem g_part {Q : Option Int → Hp → Prop} (k : te σ H fun x H1 => ∃ i, x = .int i ∧ Q (some i) H1) : tPart te σ H Q := k
theorem g_int {i : Int} {Q : Int → Prop} (k : Q i) : ∃ j, V.int i = .int j ∧ Q j := ⟨i, rfl, k⟩
/-! values -/
theorem v_add {i j : Int} (k : Q (.int (i + j)) H) : uAdd K (.int i) (.int j) H Q := .inl ⟨i, j, rfl, rfl, k⟩
theorem v_sub {i j : Int} (k : Q (.int (i - j)) H) : uSub (.int i) (.int j) H Q := ⟨i, j, rfl, rfl, k⟩
theorem v_mul {i j : Int} (h : CMul i j ∨ CMulW i j) (k : Q (.int (i * j)) H) : uMul (.int i) (.int j) H Q := h.elim (fun h => .inl ⟨i, j, rfl, rfl, h, k⟩) fun h => .inr (.inl ⟨i, j, rfl, rfl, h, k⟩)
theorem v_mod {i j : Int} (h : 0 < j) (k : Q (.int (i % j)) H) : uMod (.int i) (.int j) H Q := ⟨i, j, rfl, rfl, h, k⟩
theorem div_ok {i j : Int} (h : 0 < j ∧ j < 2 ^ 64) : CDivW i j := wide_div (b := 64) h.1 (by omega) (by decide) (by decide)
theorem v_div {i j : Int} (h : 0 < j ∧ j < 2 ^ 64) (k : Q (.int (i / j)) H) : uDiv (.int i) (.int j) H Q := ⟨i, j, rfl, rfl, div_ok h, k⟩
theorem v_iadd {i j : Int} (k : Q (.int (i + j)) H) : iAdd (.int i) (.int j) H Q := .inl ⟨i, j, rfl, rfl, k⟩
theorem v_isub {i j : Int} (k : Q (.int (i - j)) H) : iSub (.int i) (.int j) H Q := ⟨i, j, rfl, rfl, k⟩
theorem v_imul {i j : Int} (h : CMul i j) (k : Q (.int (i * j)) H) : iMul (.int i) (.int j) H Q := ⟨i, j, rfl, rfl, h, k⟩
theorem v_idiv {i j : Int} (h : CDiv i j) (k : Q (.int (i / j)) H) : iDiv (.int i) (.int j) H Q := ⟨i, j, rfl, rfl, h, k⟩
theorem v_lt {i j : Int} (k : Q (.bl (decide (i < j))) H) : uLt (.int i) (.int j) H Q := ⟨i, j, rfl, rfl, k⟩
theorem v_le {i j : Int} (k : Q (.bl (decide (i ≤ j))) H) : uLe (.int i) (.int j) H Q := ⟨i, j, rfl, rfl, k⟩
theorem v_gt {i j : Int} (k : Q (.bl (decide (j < i))) H) : uGt (.int i) (.int j) H Q := ⟨i, j, rfl, rfl, k⟩
theorem v_ge {i j : Int} (k : Q (.bl (decide (j ≤ i))) H) : uGe (.int i) (.int j) H Q := ⟨i, j, rfl, rfl, k⟩
theorem v_eqI {i j : Int} (k : Q (.bl (decide (i = j))) H) : uEq K (.int i) (.int j) H Q := .inl ⟨rfl, by
  have e : decide (V.int i = V.int j) = decide (i = j) := decide_eq_decide.mpr ⟨fun h => V.int.inj h, fun h => by rw [h]⟩
  rw [e]
  exact k⟩
theorem v_neI {i j : Int} (k : Q (.bl (!decide (i = j))) H) : uNe K (.int i) (.int j) H Q := .inl ⟨rfl, by
  have e : decide (V.int i = V.int j) = decide (i = j) := decide_eq_decide.mpr ⟨fun h => V.int.inj h, fun h => by rw [h]⟩
  rw [e]
  exact k⟩
theorem v_eqS {i j : Str} (k : Q (.bl (decide (i = j))) H) : uEq K (.str i) (.str j) H Q := .inl ⟨rfl, by
  have e : decide (V.str i = V.str j) = decide (i = j) := decide_eq_decide.mpr ⟨fun h => V.str.inj h, fun h => by rw [h]⟩
  rw [e]
  exact k⟩
theorem v_eqB {i j : Bool} (k : Q (.bl (decide (i = j))) H) : uEq K (.bl i) (.bl j) H Q := .inl ⟨rfl, by
  have e : decide (V.bl i = V.bl j) = decide (i = j) := decide_eq_decide.mpr ⟨fun h => V.bl.inj h, fun h => by rw [h]⟩
  rw [e]
  exact k⟩
theorem v_neB {i j : Bool} (k : Q (.bl (!decide (i = j))) H) : uNe K (.bl i) (.bl j) H Q := .inl ⟨rfl, by
  have e : decide (V.bl i = V.bl j) = decide (i = j) := decide_eq_decide.mpr ⟨fun h => V.bl.inj h, fun h => by rw [h]⟩
  rw [e]
  exact k⟩
theorem v_eqD {x y : V} {d e : PyData} (h1 : Dp K H x d) (h2 : Dp K H y e) (s1 : SeqAt.shaped d = true) (s2 : SeqAt.shaped e = true) (k : Q (.bl (PyData.eqv d e)) H) : uEq K x y H Q := .inr ⟨d, e, h1, h2, s1, s2, k⟩
theorem v_neD {x y : V} {d e : PyData} (h1 : Dp K H x d) (h2 : Dp K H y e) (s1 : SeqAt.shaped d = true) (s2 : SeqAt.shaped e = true) (k : Q (.bl (!PyData.eqv d e)) H) : uNe K x y H Q := .inr ⟨d, e, h1, h2, s1, s2, k⟩
theorem v_ixL {p : Addr} {xs : List V} {i : Int} {v : V} (h : SqL K H p xs) (ha : atI xs i = some v) (k : Q v H) : uIx K (.ref p) (.int i) H Q := .inl ⟨p, xs, i, v, rfl, rfl, h, ha, k⟩
theorem v_ixT {p : Addr} {xs : List V} {i : Int} {v : V} (h : SqT K H p xs) (ha : atI xs i = some v) (k : Q v H) : uIx K (.ref p) (.int i) H Q := .inr (.inl ⟨p, xs, i, v, rfl, rfl, h, ha, k⟩)
theorem v_get {p : Addr} {xs : List V} {n : Int} {v : V} (h : SqL K H p xs) (h0 : 0 ≤ n) (ha : xs[n.toNat]? = some v) (k : Q v H) : gIx K (.ref p) (.int n) H Q := .inl ⟨p, xs, n, v, rfl, rfl, h, h0, ha, k⟩
theorem ixN_int {n : Nat} {i : Int} (h0 : 0 ≤ i) (h1 : i < n) : ixN n i = some i.toNat := by
  unfold ixN
  rw [if_pos h0, if_pos h1]
theorem atI_int {α : Type} {xs : List α} {i : Int} {v : α} (h0 : 0 ≤ i) (h : xs[i.toNat]? = some v) : atI xs i = some v := by
  have hl := (List.getElem?_eq_some_iff.mp h).1
  unfold atI
  rw [ixN_int h0 (by omega)]
  exact h
theorem atI_ints {ns : List Int} {i : Int} (h0 : 0 ≤ i) (h1 : i < ns.length) : atI (ns.map V.int) i = some (.int (ns.getD i.toNat 0)) := by
  refine atI_int h0 ?_
  have hl : i.toNat < ns.length := by omega
  rw [List.getElem?_map, List.getElem?_eq_getElem hl, List.getD_eq_getElem?_getD, List.getElem?_eq_getElem hl]
  rfl
theorem ixN_nat {n j : Nat} (hj : j < n) : ixN n (j : Int) = some j := by
  unfold ixN
  rw [if_pos (Int.natCast_nonneg j), if_pos (by omega)]
  simp
/-- xs[j] = v, the list owned -/
theorem v_set {p : Addr} {xs : List V} {n : Int} {j : Nat} {v : V} {Q : Hp → Prop} (S : M Rs H) (i : Nat) (e : Rs[i]? = some (pt p (.lst xs))) (hj : ixN xs.length n = some j) (k : ∀ H', M (Rs.set i (pt p (.lst (xs.set j v)))) H' → Q H') :
    uSet (.ref p) (.int n) v H Q := .inl ⟨p, xs, n, j, rfl, rfl, S.got i e, hj, k _ (S.putAt i e)⟩
theorem v_cat {a b : Addr} {xs ys : List V} (S : M Rs H) (h1 : H a = some (.lst xs)) (h2 : H b = some (.lst ys)) (hz : xs.length + ys.length ≤ 100000) (k : ∀ p H', M (pt p (.lst (xs ++ ys)) :: Rs) H' → Q (.ref p) H') : uAdd K (.ref a) (.ref b) H Q :=
  .inr (.inr (.inl ⟨a, b, xs, ys, rfl, rfl, SqL.of h1, SqL.of h2, Nat.le_trans hz (by decide), fun p hp => k p _ (S.new hp)⟩))
theorem v_catS {a b : Addr} {xs ys : List V} (S : M Rs H) (h1 : SqL K H a xs) (h2 : SqL K H b ys) (hz : xs.length + ys.length ≤ 100000) (k : ∀ p H', M (pt p (.lst (xs ++ ys)) :: Rs) H' → Q (.ref p) H') : uAdd K (.ref a) (.ref b) H Q :=
  .inr (.inr (.inl ⟨a, b, xs, ys, rfl, rfl, h1, h2, Nat.le_trans hz (by decide), fun p hp => k p _ (S.new hp)⟩))
theorem v_slL {a : Addr} {xs : List V} {lo hi : Option Int} (S : M Rs H) (h : SqL K H a xs) (k : ∀ p H', M (pt p (.lst (cutV xs lo hi)) :: Rs) H' → Q (.ref p) H') : uSl K (.ref a) lo hi H Q :=
  .inl ⟨a, xs, rfl, h, fun p hp => k p _ (S.new hp)⟩
def RevK (K : PySem.W.Frag) (Q : VK) : VK := fun x H1 => ∃ a xs, x = .ref a ∧ SqL K H1 a xs ∧ ∀ p, H1 p = none → Q (.ref p) (upd H1 p (.lst xs.reverse))
theorem g_rev (k : te σ H (RevK K Q)) : tRevL K te σ H Q := k
theorem v_rev {a : Addr} {xs : List V} (S : M Rs H) (h : SqL K H a xs) (k : ∀ p H', M (pt p (.lst xs.reverse) :: Rs) H' → Q (.ref p) H') : RevK K Q (.ref a) H :=
  ⟨a, xs, rfl, h, fun p hp => k p _ (S.new hp)⟩
theorem v_lenL {a : Addr} {xs : List V} (h : SqL K H a xs) (k : Q (.int (xs.length : Nat)) H) : uLen K [.ref a] H Q := .inl ⟨_, _, rfl, .inl ⟨xs, h, rfl⟩, k⟩
/-- xs.append(v) -/
theorem g_bm {T : String} {r : V → List V → Hp → VK → Prop} {t : TA} (k : te σ H fun x H1 => tyV K T x H1 ∧ t σ H1 fun xs H2 => r x xs H2 Q) : tBM K T r te t σ H Q := k
theorem g_bm0 {T : String} {r : V → List V → Hp → VK → Prop} (k : te σ H fun x H1 => tyV K T x H1 ∧ r x [] H1 Q) : tBM0 K T r te σ H Q := k
theorem v_tyL {a : Addr} {xs : List V} {φ : Prop} (h : SqL K H a xs) (k : φ) : tyV K "list" (.ref a) H ∧ φ := ⟨.inl ⟨rfl, xs, h⟩, k⟩
theorem v_app {p : Addr} {xs : List V} {v : V} (S : M Rs H) (i : Nat) (e : Rs[i]? = some (pt p (.lst xs))) (hz : xs.length < 100000) (k : ∀ H', M (Rs.set i (pt p (.lst (xs ++ [v])))) H' → Q .non H') : rAppend (.ref p) [v] H Q :=
  ⟨p, xs, v, rfl, rfl, S.got i e, Nat.lt_of_lt_of_le hz (by decide), k _ (S.putAt i e)⟩
theorem v_if {b : Bool} {A B : Prop} (h1 : b = true → A) (h2 : b = false → B) : if b = true then A else B := by
  cases b with
  | true => exact h1 rfl
  | false => exact h2 rfl
theorem v_ifD {c : Prop} [Decidable c] {A B : Prop} (h1 : c → A) (h2 : ¬ c → B) : if decide c = true then A else B := by
  by_cases h : c
  · rw [decide_eq_true h]
    exact h1 h
  · rw [decide_eq_false h]
    exact h2 h
theorem v_ifN {c : Prop} [Decidable c] {A B : Prop} (h1 : ¬ c → A) (h2 : c → B) : if (!decide c) = true then A else B := by
  by_cases h : c
  · rw [decide_eq_true h]
    exact h2 h
  · rw [decide_eq_false h]
    exact h1 h
theorem v_ifT {A B : Prop} (k : A) : if true = true then A else B := k
theorem v_ifF {A B : Prop} (k : B) : if false = true then A else B := k
end
end RC
namespace RC
open PySem PySem.Spec PyProof.Rows L2
/-- the function object at an address -/
def fdOf (K : PySem.W.Frag) (f : Addr) : FuncData := match K.lookup f with
  | some ⟨_, _, .func fd, _⟩ => fd
  | _ => PySem.W.fnOf "" "" ⟨[], [], none, [], [], none, []⟩ [] ⟨.function, [], false, false, []⟩ .none .none .none .none none .none .none
theorem fd_of {K : PySem.W.Frag} {x q : Str} {ar : Arguments} {bd : List Stmt} {sc : Scope} {dvs : List V} {kws : List (Str × V)} {f : Addr} (h : ∃ fd, FunD K x q ar bd sc dvs kws f fd) : FunD K x q ar bd sc dvs kws f (fdOf K f) := by
  obtain ⟨fd, F⟩ := h
  have e : fdOf K f = fd := by
    obtain ⟨⟨oc, od, dV, kV, doc, pm, an, cdv, ct, osl, rfl, lk, _, _, _⟩, _⟩ := F
    unfold fdOf
    rw [lk]
  rw [e]
  exact F
/-- a list that may be read for ever -/
def rdL (K : PySem.W.Frag) (a : Addr) (xs : List V) : Res := ⟨fun F l => l = [] ∧ SqL K F a xs, fun _ _ _ e h => ⟨h.1, e.sqL h.2⟩⟩
theorem M.start {K : PySem.W.Frag} {H : Hp} {a : Addr} {xs : List V} (h : SqL K H a xs) : M [rdL K a xs] H :=
  ⟨H, [], ⟨[], [], rfl, ⟨rfl, h⟩, rfl⟩, ⟨Ext.refl H, (fun _ h => nomatch h), List.nodup_nil⟩⟩
theorem M.gotR {K : PySem.W.Frag} {Rs : List Res} {H : Hp} {a : Addr} {xs : List V} (h : M Rs H) (i : Nat) (e : Rs[i]? = some (rdL K a xs)) : SqL K H a xs := by
  obtain ⟨F, L, ⟨l1, l2, rfl, ⟨_, q⟩, b⟩, m⟩ := h.at i e
  exact m.ex.sqL q
/-- what the resources bring about -/
def Ent (Rs : List Res) (φ : Hp → Prop) : Prop := ∀ H, M Rs H → φ H
def rAbs : List V → Hp → VK → Prop := fun xs H Q => ∃ i, xs = [.int i] ∧ Q (.int (if i < 0 then -i else i)) H
theorem cr_abs {X : Cx} : CallR X (.builtin "abs") rAbs := call_abs
def rListOf (K : PySem.W.Frag) : List V → Hp → VK → Prop := fun xs H Q => ∃ p ys, xs = [.ref p] ∧ (SqL K H p ys ∨ SqT K H p ys) ∧ ∀ l, H l = none → Q (.ref l) (upd H l (.lst ys))
theorem cr_list {X : Cx} : CallR X (.type "list") (rListOf X.K) := call_list_of
theorem v_abs {i : Int} {H : Hp} {Q : VK} (k : Q (.int (if i < 0 then -i else i)) H) : rAbs [.int i] H Q := ⟨i, rfl, k⟩
theorem v_list {K : PySem.W.Frag} {Rs : List Res} {H : Hp} {Q : VK} {a : Addr} {xs : List V} (S : M Rs H) (h : SqL K H a xs ∨ SqT K H a xs) (k : ∀ p H', M (pt p (.lst xs) :: Rs) H' → Q (.ref p) H') : rListOf K [.ref a] H Q :=
  ⟨a, xs, rfl, h, fun p hp => k p _ (S.new hp)⟩
def rIsN : R2 := fun x y H Q => y = .non ∧ Q (.bl (decide (x = .non))) H
def rNotN : R2 := fun x y H Q => y = .non ∧ Q (.bl (!decide (x = .non))) H
end RC
namespace RC
open PySem PySem.Spec PyProof.Rows L2
/-! ### loops -/
def ForW (J : It) (g : TG) (tb : TS) (D : Ends) (σ : L2.St) (H1 : Hp) : Prop := ∃ W : Nat → Nat → L2.St → Hp → Prop, (∃ m, W 0 m σ H1) ∧ ∀ i m σ H, W i m σ H →
  (J.stop i H ∧ D.nx σ H) ∨ (J.go i H ∧ ∃ N : L2.St → Hp → Prop, (∀ σ' H', N σ' H' → ∃ m', m' < m ∧ W (i + 1) m' σ' H') ∧ ∀ x H', J.yld i H x H' → g x σ H' fun σ2 H2 => tb { D with nx := N, ct := N, bk := D.nx } σ2 H2)
def LcW (J : It) (g : TG) (tt : TT) (te : TE) (vs : List Nat) (σ : L2.St) (Q : VK) (H1 : Hp) : Prop := ∀ D, H1 D = none → ∃ W : Nat → Nat → Hp → Prop, (∃ m, W 0 m (upd H1 D (.lst []))) ∧ ∀ i m H, W i m H →
  (J.stop i H ∧ Q (.ref D) H) ∨ (J.go i H ∧ ∃ Nx : Hp → Prop, (∀ H', Nx H' → ∃ m', m' < m ∧ W (i + 1) m' H') ∧ ∀ x H', J.yld i H x H' → g x (wipe σ vs) H' fun σ2 H2 => wipe σ2 vs = wipe σ vs ∧ tt σ2 H2 fun b H3 =>
    if b = true then te σ2 H3 fun y H4 => ∃ acc, H4 D = some (.lst acc) ∧ acc.length < sizeLine ∧ Nx (upd H4 D (.lst (acc ++ [y]))) else Nx H3)
section
variable {K : PySem.W.Frag} {σ : L2.St} {H : Hp} {Q : VK} {D : Ends} {tb : TS} {te tl : TE} {ta : TA} {tt : TT} {g : TG} {vs : List Nat} {wi : TI} {J : It} {R : It → Hp → Prop} {a : Addr} {xs : List V} {Rs : List Res}
theorem g_for (k : wi σ H fun J H1 => ForW J g tb D σ H1) : tFor wi g tb D σ H := k
theorem g_lc (k : wi σ H fun J H1 => LcW J g tt te vs σ Q H1) : tLc wi g tt te vs σ H Q := k
def ItL (K : PySem.W.Frag) (R : It → Hp → Prop) : VK := fun x H1 => ∃ a, x = .ref a ∧ (∃ xs, SqL K H1 a xs) ∧ R (Itl K a) H1
def ItR (R : It → Hp → Prop) : List V → Hp → Prop := fun vs H1 => ∃ j : Int, vs = [.int j] ∧ -(2 ^ 62) ≤ j ∧ j < 2 ^ 62 ∧ R (Itr 0 j.toNat) H1
def ItV (K : PySem.W.Frag) (R : It → Hp → Prop) : List V → Hp → Prop := fun vs H1 => ∃ (a : Addr) (xs : List V), vs = [.ref a] ∧ SqL K H1 a xs ∧ R (Itv K a xs.length) H1
theorem g_iList (k : tl σ H (ItL K R)) : iList K tl σ H R := k
theorem v_itL (h : SqL K H a xs) (k : R (Itl K a) H) : ItL K R (.ref a) H := ⟨a, rfl, ⟨xs, h⟩, k⟩
theorem g_iRng1 (k : ta σ H (ItR R)) : iRng1 ta σ H R := k
theorem v_itR {j : Int} (h : -(2 ^ 62) ≤ j ∧ j < 2 ^ 62) (k : R (Itr 0 j.toNat) H) : ItR R [V.int j] H := ⟨j, rfl, h.1, h.2, k⟩
theorem g_iRev (k : ta σ H (ItV K R)) : iRev K ta σ H R := k
theorem v_itV (h : SqL K H a xs) (k : R (Itv K a xs.length) H) : ItV K R [V.ref a] H := ⟨a, xs, rfl, h, k⟩
/-- a for, by a word of the turn, the slots and the heap -/
theorem for_W {n : Nat} {G : Hp → Prop} {Y : Nat → Hp → V → Hp → Prop} (w : Walk J n G Y) (Pv : Nat → L2.St → Hp → Prop) (h0 : Pv 0 σ H) (hG : ∀ i σ H, i ≤ n → Pv i σ H → G H)
    (hs : ∀ i x σ H H', i < n → Pv i σ H → Y i H x H' → g x σ H' fun σ2 H2 => tb { D with nx := Pv (i + 1), ct := Pv (i + 1), bk := D.nx } σ2 H2) (hd : ∀ σ H, Pv n σ H → D.nx σ H) : ForW J g tb D σ H := for_it w Pv h0 hG hs hd
/-- a comprehension: P of the turn and the items so far; the resources Rs stand at each turn -/
def PvM (P : Nat → List V → Prop) (E : Addr) (Rs : List Res) (i : Nat) (H : Hp) : Prop := ∃ acc, P i acc ∧ M (pt E (.lst acc) :: Rs) H
def LcK (N : Hp → Prop) (E : Addr) : VK := fun y H4 => ∃ acc, H4 E = some (.lst acc) ∧ acc.length < sizeLine ∧ N (upd H4 E (.lst (acc ++ [y])))
theorem lc_W {n : Nat} {G : Hp → Prop} {Y : Nat → Hp → V → Hp → Prop} (w : Walk J n G Y) (S : M Rs H) (P : Nat → List V → Prop) (h0 : P 0 []) (hG : ∀ H, M Rs H → G H)
    (hs : ∀ i x acc E H H', i < n → P i acc → M (pt E (.lst acc) :: Rs) H → Y i H x H' → g x (wipe σ vs) H' fun σ2 H2 => wipe σ2 vs = wipe σ vs ∧ tt σ2 H2 fun b H3 => if b = true then te σ2 H3 (LcK (PvM P E Rs (i + 1)) E) else PvM P E Rs (i + 1) H3)
    (hd : ∀ E acc H, P n acc → M (pt E (.lst acc) :: Rs) H → Q (.ref E) H) : LcW J g tt te vs σ Q H := by
  intro E hE
  refine lc_it w (PvM P E Rs) ⟨[], h0, S.new hE⟩ (fun i H _ ⟨acc, _, S⟩ => hG H S.tl) (fun i x H H' hi ⟨acc, hp, S⟩ y => hs i x acc E H H' hi hp S y) fun H ⟨acc, hp, S⟩ => hd E acc H hp S
theorem lc_next {N : Hp → Prop} {E : Addr} {y : V} {acc : List V} (S : M Rs H) (i : Nat) (e : Rs[i]? = some (pt E (.lst acc))) (hz : acc.length < 100000) (k : ∀ H', M (Rs.set i (pt E (.lst (acc ++ [y])))) H' → N H') : LcK N E y H :=
  ⟨acc, S.got i e, Nat.lt_of_lt_of_le hz (by decide), k _ (S.putAt i e)⟩
theorem g_yes {Q : Bool → Hp → Prop} (k : Q true H) : tYes σ H Q := k
theorem g_name {i : Nat} {v : V} {Q : L2.St → Hp → Prop} (k : Q (σ.set i (some v)) H) : gName i v σ H Q := k
end
theorem ints_get {ns : List Int} {i : Nat} {x : V} (h : (ns.map V.int)[i]? = some x) : ∃ n, ns[i]? = some n ∧ x = .int n := by
  rw [List.getElem?_map] at h
  cases e : ns[i]? with
  | none =>
    rw [e] at h
    cases h
  | some n =>
    rw [e] at h
    exact ⟨n, rfl, (Option.some.inj h).symm⟩
theorem take_more {α : Type} {l : List α} {i : Nat} {x : α} (h : l[i]? = some x) : l.take (i + 1) = l.take i ++ [x] := by
  rw [List.take_add_one, h]
  rfl
end RC
namespace RC
open PySem PySem.Spec PyProof.Rows L2
theorem cut_to (xs : List V) (k : Nat) : cutV xs none (some (k : Int)) = xs.take k := by
  unfold cutV
  rw [HT.sIx_none, HT.sIx_nat, List.drop_zero, Nat.sub_zero]
  rcases Nat.le_total k xs.length with h | h
  · rw [Nat.min_eq_left h]
  · rw [Nat.min_eq_right h, List.take_of_length_le (Nat.le_refl _), List.take_of_length_le h]
theorem cut_from (xs : List V) (k : Nat) : cutV xs (some (k : Int)) none = xs.drop k := by
  unfold cutV
  rw [HT.sIx_none, HT.sIx_nat]
  rcases Nat.le_total k xs.length with h | h
  · rw [Nat.min_eq_left h, List.take_of_length_le]
    rw [List.length_drop]
    exact Nat.le_refl _
  · rw [Nat.min_eq_right h, List.drop_of_length_le h, List.drop_of_length_le (Nat.le_refl _), List.take_nil]
theorem cut_mid (xs : List V) (a b : Nat) : cutV xs (some (a : Int)) (some (b : Int)) = (xs.drop a).take (b - a) := by
  unfold cutV
  rw [HT.sIx_nat, HT.sIx_nat]
  rcases Nat.le_total a xs.length with h | h
  · rw [Nat.min_eq_left h]
    rcases Nat.le_total b xs.length with g | g
    · rw [Nat.min_eq_left g]
    · rw [Nat.min_eq_right g, List.take_of_length_le, List.take_of_length_le]
      · rw [List.length_drop]
        omega
      · rw [List.length_drop]
        exact Nat.le_refl _
  · rw [Nat.min_eq_right h, List.drop_of_length_le h, List.drop_of_length_le (Nat.le_refl _), List.take_nil, List.take_nil]
theorem g_wipe {a b : L2.St} {φ : Prop} (h : a = b) (k : φ) : a = b ∧ φ := ⟨h, k⟩
end RC
namespace RC
open PySem PySem.Spec PyProof.Rows L2
/-- all are ints of which P holds -/
def AllI (P : Int → Prop) : List V → Prop
  | [] => True
  | .int n :: r => P n ∧ AllI P r
  | _ => False
theorem AllI.get {P : Int → Prop} : ∀ {xs : List V}, AllI P xs → ∀ {j : Nat}, j < xs.length → ∃ n, P n ∧ xs[j]? = some (.int n)
  | [], _, j, h => absurd h (Nat.not_lt_zero _)
  | .int n :: r, h, 0, _ => ⟨n, h.1, rfl⟩
  | .int n :: r, h, j + 1, hj => by
    obtain ⟨m, a, b⟩ := AllI.get h.2 (Nat.lt_of_succ_lt_succ hj)
    exact ⟨m, a, by simpa using b⟩
  | .non :: _, h, _, _ => h.elim
  | .bl _ :: _, h, _, _ => h.elim
  | .str _ :: _, h, _, _ => h.elim
  | .byt _ :: _, h, _, _ => h.elim
  | .flt _ :: _, h, _, _ => h.elim
  | .ref _ :: _, h, _, _ => h.elim
  | .ty _ :: _, h, _, _ => h.elim
/-- one of a written menu of ints -/
theorem menuI {xs : List V} {v : Int} (P : Int → Prop) (h : AllI P xs) (h0 : 0 ≤ v) (h1 : v < xs.length) : ∃ n, P n ∧ atI xs v = some (.int n) := by
  obtain ⟨n, a, b⟩ := h.get (j := v.toNat) (by omega)
  exact ⟨n, a, atI_int h0 b⟩
/-- one of a written menu -/
theorem menu {xs : List V} {v : Int} (h0 : 0 ≤ v) (h1 : v < xs.length) : ∃ x, x ∈ xs ∧ atI xs v = some x := by
  have hl : v.toNat < xs.length := by omega
  exact ⟨xs[v.toNat], List.getElem_mem hl, atI_int h0 (List.getElem?_eq_getElem hl)⟩
theorem set_len {α : Type} {l : List α} {i : Nat} {x : α} : (l.set i x).length = l.length := List.length_set
theorem map_set {α β : Type} (f : α → β) (l : List α) (i : Nat) (x : α) : (l.map f).set i (f x) = (l.set i x).map f := (List.map_set).symm
end RC
namespace RC
theorem v_ifNT {A B : Prop} (k : B) : if (!true) = true then A else B := k
theorem v_ifNF {A B : Prop} (k : A) : if (!false) = true then A else B := k
end RC
namespace RC
open PySem PySem.Spec PyProof.Rows L2
/-- some of the resources, in another order -/
def Sub (Rs' Rs : List Res) : Prop := ∀ F L, Sat F Rs L → ∃ L1 L2, L.Perm (L1 ++ L2) ∧ Sat F Rs' L1
theorem Sub.refl (Rs : List Res) : Sub Rs Rs := fun _ L h => ⟨L, [], by rw [List.append_nil], h⟩
theorem Sub.nil (Rs : List Res) : Sub [] Rs := fun _ L _ => ⟨[], L, .refl _, rfl⟩
theorem Sub.cons {Rs Rs' : List Res} {R : Res} (i : Nat) (e : Rs[i]? = some R) (h : Sub Rs' (Rs.eraseIdx i)) : Sub (R :: Rs') Rs := by
  intro F L s
  obtain ⟨L0, p0, l1, l2, rfl, a, b⟩ := s.perm (perm_at i e)
  obtain ⟨L1, L2, p1, c⟩ := h F l2 b
  refine ⟨l1 ++ L1, L2, p0.trans ?_, l1, L1, rfl, a, c⟩
  rw [List.append_assoc]
  exact p1.append_left l1
theorem Sub.tl {Rs Rs' : List Res} {R : Res} (h : Sub Rs' Rs) : Sub Rs' (R :: Rs) := by
  rintro F L ⟨l1, l2, rfl, a, b⟩
  obtain ⟨L1, L2, p1, c⟩ := h F l2 b
  refine ⟨L1, l1 ++ L2, (p1.append_left l1).trans ?_, c⟩
  rw [← List.append_assoc, ← List.append_assoc]
  exact List.Perm.append_right _ List.perm_append_comm
theorem M.sub {Rs Rs' : List Res} {H : Hp} (q : Sub Rs' Rs) (h : M Rs H) : M Rs' H := by
  obtain ⟨F, L, a, m⟩ := h
  obtain ⟨L1, L2, p, b⟩ := q F L a
  have m2 := m.perm p
  refine ⟨F, L1, b, m2.ex, fun c hc => m2.own c (List.mem_append_left _ hc), ?_⟩
  have nd := m2.nd
  rw [List.map_append] at nd
  exact (List.nodup_append.mp nd).1
end RC
namespace RC
open PySem PySem.Spec PyProof.Rows L2
section
variable {X : Cx}
theorem units65 {k : Nat} {A : Around} (hr : Room k A) : A.units + 65 < cLine := by
  have := hr.un
  omega
def rDIn : R2 := fun x y H Q => ∃ a o, y = .ref a ∧ DGet H a x o ∧ Q (.bl o.isSome) H
def rDNotIn : R2 := fun x y H Q => ∃ a o, y = .ref a ∧ DGet H a x o ∧ Q (.bl (!o.isSome)) H
theorem op_din (hu : X.A.units + 1 < cLine) : OpR X (compareOp .In) rDIn := by
  intro pins s σ H x y v u Q I rx ry h
  obtain ⟨a, o, rfl, g, q⟩ := h
  cases (show u = Value.ref a from ry)
  exact d_in hu I g rx fun s' I' => ⟨.bl o.isSome, H, I', rfl, q⟩
theorem op_dnotin (hu : X.A.units + 1 < cLine) : OpR X (compareOp .NotIn) rDNotIn := by
  intro pins s σ H x y v u Q I rx ry h
  obtain ⟨a, o, rfl, g, q⟩ := h
  cases (show u = Value.ref a from ry)
  exact d_notIn hu I g rx fun s' I' => ⟨.bl (!o.isSome), H, I', rfl, q⟩
def rInS : R2 := fun x y H Q => ∃ i j, x = .str i ∧ y = .str j ∧ Q (.bl (!(Builtin.Str.occurrences j i 0 j.length 1).isEmpty)) H
def rNotInS : R2 := fun x y H Q => ∃ i j, x = .str i ∧ y = .str j ∧ Q (.bl (!(!(Builtin.Str.occurrences j i 0 j.length 1).isEmpty))) H
def uIn (K : PySem.W.Frag) : R2 := fun x y H Q => rIn K false x y H Q ∨ rInD K x y H Q ∨ rDIn x y H Q ∨ rInS x y H Q
def uNotIn (K : PySem.W.Frag) : R2 := fun x y H Q => rIn K true x y H Q ∨ rNotInD K x y H Q ∨ rDNotIn x y H Q ∨ rNotInS x y H Q
theorem uo_in {k : Nat} (hr : Room k X.A) : OpR X (compareOp .In) (uIn X.K) := op_in_seq.or ((op_inD (units65 hr)).or ((op_din (hu_of hr)).or op_in_str))
theorem uo_notin {k : Nat} (hr : Room k X.A) : OpR X (compareOp .NotIn) (uNotIn X.K) := op_notIn_seq.or ((op_notInD (units65 hr)).or ((op_dnotin (hu_of hr)).or op_notin_str))
theorem op_isN' : OpR X (compareOp .Is) rIsN := op_isN
theorem op_notN' : OpR X (compareOp .IsNot) rNotN := op_notN
end
section
variable {K : PySem.W.Frag} {σ : L2.St} {H : Hp} {Q : VK} {D : Ends} {Rs : List Res} {E : XK}
theorem v_neg {i : Int} (k : Q (.int (-i)) H) : rU (fun i => .int (-i)) (.int i) H Q := ⟨i, rfl, k⟩
theorem v_isN {x : V} (k : Q (.bl (decide (x = .non))) H) : rIsN x .non H Q := ⟨rfl, k⟩
theorem v_notN {x : V} (k : Q (.bl (!decide (x = .non))) H) : rNotN x .non H Q := ⟨rfl, k⟩
theorem g_par {i j : Nat} {ta : TA} (k : ta σ H fun vs H1 => ∃ v w, vs = [v, w] ∧ D.nx ((σ.set i (some v)).set j (some w)) H1) : tPar i j ta D σ H := k
theorem v_two {x y : V} {P : V → V → Prop} (k : P x y) : ∃ v w, [x, y] = [v, w] ∧ P v w := ⟨x, y, rfl, k⟩
theorem g_callN {n m : Nat} {sp : Sp} {gV : List V → List V → List V} {t tk : TA} (k : t σ H fun vs H1 => tk σ H1 fun zs H2 => vs.length = n ∧ zs.length = m ∧ sp (gV vs zs) H2 Q E) : tCallN n m sp gV E t tk σ H Q := k
theorem g_callP {n m l : Nat} {π : {α : Type} → List α → List α} {sp : Sp} {gV : List V → List V → List V} {t tk : TA} (k : t σ H fun vs H1 => tk σ H1 fun zs H2 => vs.length = n ∧ zs.length = m ∧ (gV vs zs).length = l ∧ sp (π (gV vs zs)) H2 Q E) : tCallP n m l π sp gV E t tk σ H Q := k
theorem v_lens {a b : List V} {n m : Nat} {P : Prop} (h1 : a.length = n) (h2 : b.length = m) (k : P) : a.length = n ∧ b.length = m ∧ P := ⟨h1, h2, k⟩
/-- a, b = t -/
theorem g_gtup {n : Nat} {t : TGs} {a : Addr} {xs : List V} {Q : L2.St → Hp → Prop} (h : SqT K H a xs) (hn : xs.length = n) (k : t xs σ H Q) : gTup K n t (.ref a) σ H Q := ⟨a, xs, rfl, h, hn, k⟩
theorem g_gnil {Q : L2.St → Hp → Prop} (k : Q σ H) : gNil [] σ H Q := ⟨rfl, k⟩
theorem g_gcons {t : TG} {u : TGs} {v : V} {r : List V} {Q : L2.St → Hp → Prop} (k : t v σ H fun σ' H' => u r σ' H' Q) : gCons t u (v :: r) σ H Q := ⟨v, r, rfl, k⟩
end
end RC
namespace RC
open PySem PySem.Spec PyProof.Rows L2
/-- a comprehension, by a word of the turn and the heap -/
theorem lc_X {H : Hp} {σ : L2.St} {Q : VK} {te : TE} {tt : TT} {g : TG} {vs : List Nat} {J : It} {n : Nat} {G : Hp → Prop} {Y : Nat → Hp → V → Hp → Prop} (w : Walk J n G Y) (Pv : Addr → Nat → Hp → Prop) (h0 : ∀ E, H E = none → Pv E 0 (upd H E (.lst [])))
    (hG : ∀ E i H, i ≤ n → Pv E i H → G H)
    (hs : ∀ E i x H H', i < n → Pv E i H → Y i H x H' → g x (wipe σ vs) H' fun σ2 H2 => wipe σ2 vs = wipe σ vs ∧ tt σ2 H2 fun b H3 => if b = true then te σ2 H3 (LcK (Pv E (i + 1)) E) else Pv E (i + 1) H3)
    (hd : ∀ E H, Pv E n H → Q (.ref E) H) : LcW J g tt te vs σ Q H := by
  intro E hE
  exact lc_it w (Pv E) (h0 E hE) (hG E) (hs E) (hd E)
end RC
namespace RC
open PySem PySem.Spec PyProof.Rows L2
section
variable {K : PySem.W.Frag} {σ : L2.St} {H : Hp} {Q : VK} {D : Ends} {Rs : List Res}
theorem v_pow {i j : Int} (h : 0 ≤ j ∧ j ≤ 1000000 ∧ i.natAbs < 2 ^ 64) (k : Q (.int (i ^ j.toNat)) H) : uPow (.int i) (.int j) H Q := ⟨i, j, rfl, rfl, h, k⟩
theorem v_rep {p : Addr} {xs : List V} {n : Int} (S : M Rs H) (h : H p = some (.lst xs)) (h1 : 0 ≤ n ∧ n < 1000) (h2 : xs.length * n.toNat ≤ 100000) (k : ∀ l H', M (pt l (.lst (List.replicate n.toNat xs).flatten) :: Rs) H' → Q (.ref l) H') : uMul (.ref p) (.int n) H Q :=
  .inr (.inr (.inl ⟨p, n, xs, rfl, rfl, h, by omega, by omega, Nat.le_trans h2 (by decide), fun l hl => k l _ (S.new hl)⟩))
/-- a while, by a word and a measure of the slots and the heap; the test is read for each turn -/
def WhW (c : TT) (tb : TS) (D : Ends) (σ : L2.St) (H : Hp) : Prop := ∃ W : Nat → L2.St → Hp → Prop, (∃ m, W m σ H) ∧ ∀ m σ H, W m σ H →
  c σ H fun b H1 => if b = true then ∃ N : L2.St → Hp → Prop, (∀ σ' H', N σ' H' → ∃ m', m' < m ∧ W m' σ' H') ∧ tb { D with nx := N, ct := N, bk := D.nx } σ H1 else D.nx σ H1
theorem g_while {c : TT} {tb : TS} (k : WhW c tb D σ H) : tWhile c tb D σ H := k
/-- N of a turn: W at some lesser measure -/
def WhN (W : Nat → L2.St → Hp → Prop) (m : Nat) : L2.St → Hp → Prop := fun σ H => ∃ m', m' < m ∧ W m' σ H
theorem wh_I {c : TT} {tb : TS} (W : Nat → L2.St → Hp → Prop) (m : Nat) (h0 : W m σ H)
    (hs : ∀ m σ H, W m σ H → c σ H fun b H1 => if b = true then ∃ N : L2.St → Hp → Prop, (∀ σ' H', N σ' H' → ∃ m', m' < m ∧ W m' σ' H') ∧ tb { D with nx := N, ct := N, bk := D.nx } σ H1 else D.nx σ H1) : WhW c tb D σ H := ⟨W, ⟨m, h0⟩, hs⟩
theorem wh_N {tb : TS} {m : Nat} {W : Nat → L2.St → Hp → Prop} {H1 : Hp} (k : tb { D with nx := WhN W m, ct := WhN W m, bk := D.nx } σ H1) : ∃ N : L2.St → Hp → Prop, (∀ σ' H', N σ' H' → ∃ m', m' < m ∧ W m' σ' H') ∧ tb { D with nx := N, ct := N, bk := D.nx } σ H1 := ⟨WhN W m, fun _ _ h => h, k⟩
end
end RC

namespace RC
open PySem PySem.Spec PyProof.Rows L2
/-! ### calls whose exceptions are wished for at the caller's slots -/
theorem pas0 {X : Cx} {σ : L2.St} {E : XK} : PassesAt CX0 X σ E := fun _ _ _ _ _ _ z => z.elim
section
variable {X : Cx} {g : Bool} {CX : CXT} {k n : Nat} {f C : Addr} {fd : FuncData} {ps ps' ks : List Str} {sp : Sp} {ds : List Value} {dvs : List V} {W : WX} {x m : Str} {p pos apos : Pos} {e o : Expr} {es : List Expr} {ta : TE} {t : TA}
theorem ended {pins : List (Addr × Obj)} {σ : L2.St} {H : Hp} {s : Shared} {Q : VK} {E : XK} {c : Code} (I : Inv X pins σ H s) (hx : PassesAt CX X σ E) (h : codeAny (model X.prog X.w) X.A c (CR CX X.stack X.prog X.w H s Q E) s) :
    codeAny (model X.prog X.w) X.A c (fun r s' => match r with | .ok (.ret u) => EP X pins σ Q u s' | .ok _ => False | .error u => X.xe u s') s := by
  refine codeAny_mono h fun res s' hq => ?_
  match res, hq with
  | .error u, hq => exact hx pins H s u s' I hq
  | .ok (.ret u), hq => exact I.after hq
  | .ok .next, hq => cases hq
  | .ok .brk, hq => cases hq
  | .ok .cont, hq => cases hq
theorem runW {pins : List (Addr × Obj)} {σ : L2.St} {H : Hp} {s : Shared} {Q : VK} {E : XK} {us : List Value} {vs : List V} (F : FnX g X.prog X.w X.K X.mg X.base CX k f fd ps sp) (hg : g = true → X.A.guards = some []) (hr : Room k X.A)
    (hb : Binds X.K fd ps ds) (hd : Vals dvs ds) (hx : PassesAt CX X σ E) (I : Inv X pins σ H s) (r : Vals vs us) (h : sp (vs ++ dvs) H Q E) :
    wpAny (model X.prog X.w) X.A (call (.ref f) us) (EP X pins σ Q) X.xe s := by
  have rr : Vals (vs ++ dvs) (us ++ ds) := r.append hd
  have ll : (us ++ ds).length = ps.length := rr.length.symm.trans (F.lenG _ _ _ _ h)
  have go := ended I hx (F.runG X.A X.stack s H ⟨us, []⟩ _ (us ++ ds) (vs ++ dvs) Q E hg hr I.env0 (hb s us I.kIn ll) (.refl _) rr h)
  refine wpAny_call (codeAny_mono go fun res s' hq => ?_)
  match res, hq with
  | .error _, hq => exact hq
  | .ok (.ret _), hq => exact hq
def tCallW (W : WX) (sp : Sp) (dvs : List V) (t : TA) : TE := fun σ H Q => t σ H fun vs H1 => sp (vs ++ dvs) H1 Q (WE W σ)
theorem pe_callW (F : FnX g X.prog X.w X.K X.mg X.base CX k f fd ps sp) (hgu : g = true → X.A.guards = some []) (hr : Room k X.A) (hg : Gl X x) (hm : X.mg x = some (.ref f))
    (hk : PySem.W.keepIn X.K (.ref f) = true) (hb : Binds X.K fd ps ds) (hd : Vals dvs ds) (hx : ∀ σ, PassesAt CX X σ (WE W σ))
    (ha : PA X (e :: es) t) (hdb : (x == ("__debug__" : Str)) = false := by decide) (he : starEach (e :: es) X.env = (false, eval e X.env) :: starEach es X.env := by rfl)
    (hpl : (backTo pos (starEach es X.env)).any (·.1) = false := by rfl) : PE X (.Call (.Name x p) (e :: es) [] pos) (tCallW W sp dvs t) := by
  constructor
  intro pins s σ H Q I h
  refine wpAny_Call_Name_kw (ld_glob I hg hm ?_ hdb)
  have body := thn (ha.run pos pins s σ H _ I h) (Q' := fun us s1 => X.K.In s1.heap ∧ wpAny (model X.prog X.w) X.A (call (.ref f) us) (EP X pins σ Q) X.xe s1)
    fun us s1 ⟨vs, H1, I1, r1, q1⟩ => ⟨I1.kIn, runW F hgu hr hb hd (hx σ) I1 r1 q1⟩
  exact PySem.W.callWith_K (h₀ := X.base) I.ok.mod.kin hk body he hpl
/-- o.m(e, ..) -/
def tMethW (W : WX) (C : Addr) (m : Str) (sp : Sp) (dvs : List V) (ta : TE) (t : TA) : TE := fun σ H Q => ta σ H fun x H1 => ∃ a dx fs, x = .ref a ∧ H1 a = some (.ins C dx fs) ∧ fs.lookup m = none ∧ t σ H1 fun vs H2 => sp (x :: (vs ++ dvs)) H2 Q (WE W σ)
theorem pe_methW {pl : Sem Bool} (he : PE X o ta) (c : Cls X.K C) (hm : Meth X.K C m f) (F : FnX g X.prog X.w X.K X.mg X.base CX k f fd ps sp) (hgu : g = true → X.A.guards = some []) (hr : Room k X.A) (hb : Binds X.K fd ps ds) (hd : Vals dvs ds)
    (hx : ∀ σ, PassesAt CX X σ (WE W σ)) (ha : PA X (e :: es) t) (hst : starEach (e :: es) X.env = (false, eval e X.env) :: starEach es X.env := by rfl) (hpl : (backTo pos (starEach es X.env)).any (·.1) = false := by rfl)
    (ht : eval (.Call (.Attribute o m apos) (e :: es) [] pos) X.env = (do
      let ov ← eval o X.env
      standAt apos.atName
      let (f, first) ← holding [ov] (getMethod ov m pl)
      callWith pos f first (backTo pos (starEach (e :: es) X.env)) (backToKw pos (keywordEach [] X.env))) := by rfl) : PE X (.Call (.Attribute o m apos) (e :: es) [] pos) (tMethW W C m sp dvs ta t) := by
  constructor
  intro pins s σ H Q I h
  refine PySem.W.methodCall_KW (pl := pl) (thn (he.run pins s σ H _ I h) ?_) ht
  rintro u s1 ⟨x, H1, I1, rx, a, dx, fs, rfl, ea, hl, q⟩
  cases (show u = Value.ref a from rx)
  refine getmeth_ok I1 ea c hm hl ?_
  refine PySem.W.callWith_K (first := [.ref a]) (h₀ := X.base) I.ok.mod.kin hm.kp (thn (ha.run pos pins s1 σ H1 _ I1 q) ?_) hst hpl
  rintro us s2 ⟨vs, H2, I2, r, q2⟩
  exact ⟨I2.kIn, runW (us := .ref a :: us) (vs := .ref a :: vs) F hgu hr hb hd (hx σ) I2 (.cons rfl r) q2⟩
theorem pe_methW0 {pl : Sem Bool} (he : PE X o ta) (c : Cls X.K C) (hm : Meth X.K C m f) (F : FnX g X.prog X.w X.K X.mg X.base CX k f fd ps sp) (hgu : g = true → X.A.guards = some []) (hr : Room k X.A) (hb : Binds X.K fd ps ds) (hd : Vals dvs ds)
    (hx : ∀ σ, PassesAt CX X σ (WE W σ))
    (ht : eval (.Call (.Attribute o m apos) [] [] pos) X.env = (do
      let ov ← eval o X.env
      standAt apos.atName
      let (f, first) ← holding [ov] (getMethod ov m pl)
      callWith pos f first (backTo pos (starEach [] X.env)) (backToKw pos (keywordEach [] X.env))) := by rfl) : PE X (.Call (.Attribute o m apos) [] [] pos) (tMethW W C m sp dvs ta tNil) := by
  constructor
  intro pins s σ H Q I h
  refine PySem.W.methodCall_KW (pl := pl) (thn (he.run pins s σ H _ I h) ?_) ht
  rintro u s1 ⟨x, H1, I1, rx, a, dx, fs, rfl, ea, hl, q⟩
  cases (show u = Value.ref a from rx)
  exact getmeth_ok I1 ea c hm hl (PySem.W.callWith_K0 (first := [.ref a]) I1.kIn hm.kp (runW (us := [.ref a]) (vs := [.ref a]) F hgu hr hb hd (hx σ) I1 (.cons rfl .nil) q))
/-- C(e, ..) -/
def tMakeW (W : WX) (C : Addr) (sp : Sp) (dvs : List V) (t : TA) : TE := fun σ H Q => t σ H fun vs H1 => ∀ x dx, H1 x = none → H1 dx = none → dx ≠ x →
  sp (.ref x :: (vs ++ dvs)) (upd (upd H1 dx (.own x)) x (.ins C dx [])) (fun v H2 => v = .non ∧ Q (.ref x) H2) (WE W σ)
theorem runMk {pins : List (Addr × Obj)} {σ : L2.St} {H : Hp} {s : Shared} {Q : VK} {E : XK} {us : List Value} {vs : List V} (M : Mk X.K C f) (F : FnX g X.prog X.w X.K X.mg X.base CX k f fd ps sp) (hgu : g = true → ((X.A.under (.builtin "type.__call__" ⟨.ref C :: us, []⟩)).guards = some []))
    (hr : Room (k + 1) X.A) (hb : Binds X.K fd ps ds) (hd : Vals dvs ds) (hx : PassesAt CX X σ E) (I : Inv X pins σ H s) (r : Vals vs us)
    (h : ∀ x dx, H x = none → H dx = none → dx ≠ x → sp (.ref x :: (vs ++ dvs)) (upd (upd H dx (.own x)) x (.ins C dx [])) (fun v H2 => v = .non ∧ Q (.ref x) H2) E) :
    wpAny (model X.prog X.w) X.A (call (.ref C) us) (EP X pins σ Q) X.xe s := by
  have hq := h (s.heap.objs.size + 1) s.heap.objs.size (I.hok.fresh (Nat.le_succ _)) (I.hok.fresh (Nat.le_refl _)) (Nat.ne_of_lt (Nat.lt_succ_self _))
  have I2 := Inv.made (C := C) I
  have r2 : Vals (V.ref (s.heap.objs.size + 1) :: (vs ++ dvs)) (Value.ref (s.heap.objs.size + 1) :: (us ++ ds)) := .cons rfl (r.append hd)
  have hl : (Value.ref (s.heap.objs.size + 1) :: us ++ ds).length = ps.length := r2.length.symm.trans (F.lenG _ _ _ _ hq)
  have go := F.runG (X.A.under (.builtin "type.__call__" ⟨.ref C :: us, []⟩)) X.stack _ _ ⟨Value.ref (s.heap.objs.size + 1) :: us, []⟩ _ (Value.ref (s.heap.objs.size + 1) :: (us ++ ds)) _ _ E hgu (hr.make C us []) (I2.env0.make C us [])
    (hb _ (Value.ref (s.heap.objs.size + 1) :: us) I2.kIn hl) (.refl _) r2 hq
  refine wpAny_call (make_map (f := f) I.kIn M.makes M.init (beq_iff_eq.mp M.fn) (codeAny_mono go fun res s' hq' => ?_))
  match res, hq' with
  | .error u, hq' => exact hx pins _ _ u s' I2 hq'
  | .ok (.ret u), hq' =>
    obtain ⟨v, H', I3, rv, ev, q3⟩ := I2.after hq'
    subst ev
    exact ⟨rv, ⟨V.ref (s.heap.objs.size + 1), H', I3, rfl, q3⟩⟩
  | .ok .next, hq' => cases hq'
  | .ok .brk, hq' => cases hq'
  | .ok .cont, hq' => cases hq'
theorem pe_makeW (M : Mk X.K C f) (F : FnX false X.prog X.w X.K X.mg X.base CX k f fd ps sp) (hr : Room (k + 1) X.A) (hg : Gl X x) (hm : X.mg x = some (.ref C)) (hb : Binds X.K fd ps ds) (hd : Vals dvs ds) (hx : ∀ σ, PassesAt CX X σ (WE W σ))
    (ha : PA X (e :: es) t) (hdb : (x == ("__debug__" : Str)) = false := by decide) (he : starEach (e :: es) X.env = (false, eval e X.env) :: starEach es X.env := by rfl) (hpl : (backTo pos (starEach es X.env)).any (·.1) = false := by rfl) :
    PE X (.Call (.Name x p) (e :: es) [] pos) (tMakeW W C sp dvs t) := by
  constructor
  intro pins s σ H Q I h
  refine wpAny_Call_Name_kw (ld_glob I hg hm ?_ hdb)
  have body := thn (ha.run pos pins s σ H _ I h) (Q' := fun us s1 => X.K.In s1.heap ∧ wpAny (model X.prog X.w) X.A (call (.ref C) us) (EP X pins σ Q) X.xe s1)
    fun us s1 ⟨vs, H1, I1, r1, q1⟩ => ⟨I1.kIn, runMk M F (fun z => nomatch z) hr hb hd (hx σ) I1 r1 q1⟩
  exact PySem.W.callWith_K (h₀ := X.base) I.ok.mod.kin M.kp body he hpl
theorem pe_makeW0 (M : Mk X.K C f) (F : FnX false X.prog X.w X.K X.mg X.base CX k f fd ps sp) (hr : Room (k + 1) X.A) (hg : Gl X x) (hm : X.mg x = some (.ref C)) (hb : Binds X.K fd ps ds) (hd : Vals dvs ds) (hx : ∀ σ, PassesAt CX X σ (WE W σ))
    (hdb : (x == ("__debug__" : Str)) = false := by decide) : PE X (.Call (.Name x p) [] [] pos) (tMakeW W C sp dvs tNil) := by
  constructor
  intro pins s σ H Q I h
  refine wpAny_Call_Name_kw (ld_glob I hg hm ?_ hdb)
  exact PySem.W.callWith_K0 I.kIn M.kp (runMk (us := []) M F (fun z => nomatch z) hr hb hd (hx σ) I .nil h)
end
end RC

namespace RC
open PySem PySem.Spec PyProof.Rows L2
/-! ### own exception classes over any built-in one -/
structure XcB (K : PySem.W.Frag) (C : Addr) (B newId initId : String) (bmB : List Value) : Prop where
  fb : ExcBaseFacts B newId initId bmB
  sf : StoreFacts B bmB "object.__setattr__" "object"
  ini : PySem.W.excInitIn K C bmB newId = true
  ovr : PySem.W.excOver K C bmB = true
  hd : PySem.W.hasDictIn K C = true
  sa : PySem.W.findIn K (.ref C) "__setattr__" = some (some (.builtin "object.__setattr__"))
  exC : PySem.W.subIn K (.ref C) (.type "BaseException") = some true
  tyC : PySem.W.typeIn K (.ref C) = some (.type "type")
  kC : PySem.W.keepIn K (.ref C) = true
theorem upd_self {H : Hp} {a : Addr} {o : HO} (e : H a = some o) : upd H a o = H := by
  funext b
  by_cases hb : b = a
  · rw [hb, upd_same, e]
  · rw [upd_ne hb]
section
variable {X : Cx} {pins : List (Addr × Obj)} {σ : L2.St} {H : Hp} {s : Shared} {a C : Addr} {f : Str} {y : V} {u : Value} {A : Around} {E : Value → Shared → Prop} {B newId initId : String} {bmB : List Value}
theorem x_set {Q : Unit → Shared → Prop} (T : XcB X.K C B newId initId bmB) (I : Inv X pins σ H s) (e : H a = some (exo a C none)) (hno : PySem.W.findIn X.K (.ref C) f = some none) (ry : RelV y u)
    (h : ∀ dx s', H dx = none → dx ≠ a → Inv X pins σ (upd (upd H dx (exd dx [(f, y)])) a (exo a C (some dx))) s' → Q () s') : wpAny (model X.prog X.w) A (setAttr (.ref a) f u) Q E s := by
  obtain ⟨t1, ho⟩ := exo_at I.hok e
  obtain ⟨hp, g, d, t, os⟩ := s
  have ho2 : hp.get? a = some (PySem.W.excObj C t1 none .none) := ho
  obtain ⟨cd, hc, hcd⟩ := PySem.W.any_some T.hd
  refine PySem.W.set_plain I.kIn (ox := PySem.W.excObj C t1 none .none) (od := none) ⟨ho2, rfl, rfl, trivial⟩ T.sa ?_
  refine PySem.W.osa_openX (od := none) T.sf I.kIn ⟨ho2, rfl, rfl, trivial⟩ T.ovr (NoAttr.taker hno) fun b => ?_
  refine wpAny_bind (wpAny_pure (wpAny_bind (PySem.W.instanceDict_exc ho2 (PySem.W.looks_clsIn I.kIn hc) hcd ?_)))
  have hxs : a ≠ hp.objs.size := Nat.ne_of_lt (Heap.lt_size ho)
  refine HandSPX.store_in_new ?_ ?_
  · exact ⟨_, #[], _, (Heap.get?_update_ne _ _ _ _ hxs.symm).trans (Heap.get?_push_at rfl rfl), rfl, fun e he => absurd he (by simp), fun _ => rfl⟩
  intro h' tk' hn hs
  have hx1 : (hp.push (PySem.W.dictOf [] 0)).get? a = some (PySem.W.excObj C t1 none .none) := Heap.get?_push_of_some _ ho2
  have kp : ∀ b o, b ≠ a → hp.get? b = some o → h'.get? b = some o := fun b o hb q =>
    (hs.2 b (Nat.ne_of_lt (Heap.lt_size q))).trans ((Heap.get?_update_ne _ _ _ _ hb).trans (Heap.get?_push_of_some _ q))
  have hx : h'.get? a = some ({ cls := .ref C, dict := some hp.objs.size, data := .fields #[.ref t1, .none, .none, .none, .bool false, .none] } : Obj) := (hs.2 a hxs).trans (Heap.get?_update_self _ hx1 rfl)
  have hnd : H hp.objs.size = none := I.hok.fresh (Nat.le_refl _)
  have nd : ∀ {b : Addr} {o : Obj}, hp.get? b = some o → b ≠ hp.objs.size := fun q => Nat.ne_of_lt (Heap.lt_size q)
  have na : ∀ {b : Addr}, H b = none → b ≠ a := fun n z => by
    rw [z, e] at n
    cases n
  have un : Un X.fs [] H (upd (upd H hp.objs.size (exd hp.objs.size [(f, y)])) a (exo a C (some hp.objs.size))) hp h' := by
    constructor
    · exact fun b o q n _ _ => kp b o (na n) q
    · exact fun b o q n _ _ => ⟨o.slots, kp b o (na n) q⟩
    · intro b o q n _
      rw [upd_ne (na n), upd_ne (nd q)]
      exact n
    · intro b o q _
      by_cases hb : b = a
      · subst hb
        exact ⟨_, hx⟩
      · exact ⟨o, kp b o hb q⟩
    · intro b xs q
      rw [upd_ne (at_ne e q exo_tup), upd_ne (ne_of_none q hnd)]
      exact q
    · intro b o v q
      rw [upd_ne (at_ne e q exo_frz), upd_ne (ne_of_none q hnd)]
      exact q
    · intro b ps q
      refine ⟨#[], ?_⟩
      rw [upd_ne (at_ne e q exo_tbl), upd_ne (ne_of_none q hnd), q]
      simp
  refine h hp.objs.size _ hnd hxs.symm (I.un (t' := tk') un fun b o q => ?_)
  by_cases hb : b = a
  · subst hb
    rw [upd_same] at q
    cases q
    exact exo_ok hx
  rw [upd_ne hb] at q
  by_cases hd : b = hp.objs.size
  · subst hd
    rw [upd_same] at q
    cases q
    exact exd_ok hn (relO_put (fs := []) ry fun g => True.intro)
  rw [upd_ne hd] at q
  refine (I.hok b o q).stay (fun c v hc z => kp c v ?_ z) (fun c hc => ?_) (fun c xs hc => ?_)
  · rcases hc with hc | hc
    · subst hc
      exact hb
    · exact at_ne e hc exo_own
  · rw [upd_ne (at_ne e hc exo_own), upd_ne (ne_of_none hc hnd)]
    exact hc
  · rw [upd_ne (at_ne e hc exo_tup), upd_ne (ne_of_none hc hnd)]
    exact hc
theorem x_init {us : List Value} {Q : Value → Shared → Prop} (T : XcB X.K C B newId initId bmB) (I : Inv X pins σ H s) (e : H a = some (exo a C none)) (hl : us.length ≤ sizeLine) (h : ∀ s', Inv X pins σ H s' → Q .none s') :
    wpAny (model X.prog X.w) A (call (.builtin initId) (.ref a :: us)) Q E s := by
  obtain ⟨nm, N, qn, bs, bm, hdct, sn, sub, ab, col, dd, k0, k1, k2, k3, k5, hC, hT⟩ := PySem.W.excInit_of I.kIn T.ini
  obtain ⟨t1, ho⟩ := exo_at I.hok e
  obtain ⟨hp, g, d, t, os⟩ := s
  refine wpAny_call (HandSPX.init_base T.fb hT hC ho hl fun h' t2 k hx => ?_)
  have J := I.write (t' := t) (x := a) (e := a) (o := exo a C none) (by rw [e]; exact True.intro) (.inl rfl) k ⟨_, hx⟩ (exo_ok hx)
  rw [upd_self e] at J
  exact h _ J
end
/-- D.__init__(self, ..), D an own class over the built-in one -/
structure XcI (K : PySem.W.Frag) (D : Addr) (initId : String) : Prop where
  ga : PySem.W.specialIn K (.ref D) "__getattribute__" = some (some (.builtin "type.__getattribute__"))
  ty : PySem.W.typeIn K (.ref D) = some (.type "type")
  rd : PySem.W.readsIn K D (.type "type") = true
  fi : PySem.W.findCls K (.ref D) (.type "type") "__init__" = some (.val (.builtin initId))
def tXi (K : PySem.W.Frag) (initId : String) (ta : TA) : TE := fun σ H Q => ta σ H fun vs H1 => ∃ (a C : Addr) (ws : List V) (B newId : String) (bmB : List Value), vs = .ref a :: ws ∧ ws.length ≤ 1000 ∧ XcB K C B newId initId bmB ∧ H1 a = some (exo a C none) ∧ Q .non H1
def tXs (K : PySem.W.Frag) (f : Str) (to te : TE) : TS := fun D σ H => te σ H fun y H1 => to σ H1 fun x H2 => ∃ (a C : Addr) (B newId initId : String) (bmB : List Value), x = .ref a ∧ XcB K C B newId initId bmB ∧ PySem.W.findIn K (.ref C) f = some none ∧
  H2 a = some (exo a C none) ∧ ∀ dx, H2 dx = none → dx ≠ a → D.nx σ (upd (upd H2 dx (exd dx [(f, y)])) a (exo a C (some dx)))
def tXm (C : Addr) (sp : Sp) (ta : TA) : L2.St → Hp → XK → Prop := fun σ H Q => ta σ H fun vs H1 => vs.length ≤ 1000 ∧ ∀ a, H1 a = none → sp (.ref a :: vs) (upd H1 a (exo a C none))
  (fun v H2 => v = .non ∧ ∃ (d : Addr) (fs : List (Str × V)), H2 a = some (exo a C (some d)) ∧ H2 d = some (exd d fs) ∧ H1 d = none ∧ Q (.ref C) (some d) (upd (del H2 a) d (.xd fs))) (fun _ _ _ => False)
section
variable {X : Cx} {o e : Expr} {es : List Expr} {to te : TE} {ta : TA} {f P : Str} {p p' p1 p2 pos : Pos} {C D : Addr} {initId : String}
theorem pe_xi {pl : Sem Bool} (hg : Gl X P) (hm : X.mg P = some (.ref D)) (T : XcI X.K D initId) (ha : PA X (e :: es) ta)
    (hc : eval (.Call (.Attribute (.Name P p1) "__init__" p2) (e :: es) [] pos) X.env = (do
      let ov ← eval (.Name P p1) X.env
      standAt p2.atName
      let (f, first) ← holding [ov] (getMethod ov "__init__" pl)
      callWith pos f first (backTo pos (starEach (e :: es) X.env)) (backToKw pos (keywordEach [] X.env))) := by rfl)
    (hh : PySem.W.handedIn (.builtin initId) = true := by decide +kernel) (hdb : (P == ("__debug__" : Str)) = false := by decide)
    (he : starEach (e :: es) X.env = (false, eval e X.env) :: starEach es X.env := by rfl) (hpl : (backTo pos (starEach es X.env)).any (·.1) = false := by rfl) :
    PE X (.Call (.Attribute (.Name P p1) "__init__" p2) (e :: es) [] pos) (tXi X.K initId ta) := by
  constructor
  intro pins s σ H Q I h
  refine PySem.W.methodCall_KW (ld_glob I hg hm ?_ hdb) hc
  obtain ⟨m, fr⟩ := I.fr
  refine PySem.W.method_of_cls fr I.ok.mod.kin T.ga (PySem.W.cls_val fr I.ok.mod.kin T.ty T.rd T.fi hh ?_)
  show wpAny _ _ (callWith pos (Value.builtin initId) [] (backTo pos (starEach (e :: es) X.env)) []) _ _ _
  refine PyProof.Rows.callWith_method1 (thn (ha.run pos pins _ σ H _ (I.tok _) h) ?_) he hpl
  rintro us s1 ⟨vs, H1, I1, r1, a, C, ws, B, newId, bmB, rfl, hl, T, ea, q⟩
  cases r1 with
  | @cons _ u0 _ ur ra rw' =>
    cases (show u0 = Value.ref a from ra)
    have hlen : ur.length ≤ sizeLine := by
      rw [← Paired.length rw', sizeLine_eq]
      omega
    exact x_init T I1 ea hlen fun s' J => ⟨.non, H1, J, rfl, q⟩
theorem ps_xs (ho : PE X o to) (he : PE X e te) (hs : swapsWith e (some (.Attribute o f p')) pos.line X.env = pure false := by rfl) : PS X (.Assign [.Attribute o f p'] e pos) (tXs X.K f to te) := by
  constructor
  intro pins s σ H D I h
  refine plainObj_wpAny_Assign_Attribute (thn (he.run pins s σ H _ I h) ?_) hs
  rintro v s1 ⟨y, H1, I1, r1, q1⟩
  refine thn (ho.run pins s1 σ H1 _ I1 q1) ?_
  rintro u s2 ⟨x, H2, I2, r2, a, C, B, newId, initId, bmB, rfl, T, hno, ea, q⟩
  cases (show u = Value.ref a from r2)
  exact x_set T I2 ea hno r1 fun dx s' n ne J => ⟨σ, _, J, q dx n ne⟩
theorem pmk_x {CX : CXT} {x : Str} {C fI : Addr} {k : Nat} {fd : FuncData} {ps : List Str} {sp : Sp} {B newId : String} {bmB : List Value} (T : XcB X.K C B newId initId bmB) (iC : PySem.W.findIn X.K (.ref C) "__init__" = some (some (.ref fI))) (tI : PySem.W.typeIn X.K (.ref fI) = some (.type "function"))
    (F : FnX false X.prog X.w X.K X.mg X.base CX k fI fd ps sp) (hr : Room (k + 1) X.A) (hb : Binds X.K fd ps []) (hx : Passes CX X (fun _ _ _ => False)) (hg : Gl X x) (hm : X.mg x = some (.ref C)) (ha : PA X (e :: es) ta)
    (hdb : (x == ("__debug__" : Str)) = false := by decide) (he : starEach (e :: es) X.env = (false, eval e X.env) :: starEach es X.env := by rfl) (hpl : (backTo pos (starEach es X.env)).any (·.1) = false := by rfl) :
    PMk X (.Call (.Name x p) (e :: es) [] pos) (tXm C sp ta) := by
  intro pins s σ H Q I h
  refine wpAny_Call_Name_kw (ld_glob I hg hm ?_ hdb)
  refine PySem.W.callWith_K (h₀ := X.base) I.ok.mod.kin T.kC (thn (ha.run pos pins s σ H _ I h) ?_) he hpl
  rintro us s1 ⟨vs, H1, I1, r1, hz, q1⟩
  refine ⟨I1.kIn, ?_⟩
  show wpAny _ _ (call (.ref C) us) _ _ _
  obtain ⟨nm, N, qn, bs, bm, hdct, sn, sub, ab, col, dd, k0, k1, k2, k3, k5, hC, hT⟩ := PySem.W.excInit_of I1.kIn T.ini
  obtain ⟨hp, g, dr, tk, os⟩ := s1
  have hsz : hp.objs.size ≤ hp.objs.size + 1 := Nat.le_succ _
  have hq := q1 (hp.objs.size + 1) (I1.hok.fresh hsz)
  have kk : ∀ b o, hp.get? b = some o → ((hp.push (PySem.W.kdv_tup us)).push (HandSPX.excO C hp.objs.size)).get? b = some o := fun b o z => Heap.get?_push_of_some _ (Heap.get?_push_of_some _ z)
  have hget : ((hp.push (PySem.W.kdv_tup us)).push (HandSPX.excO C hp.objs.size)).get? (hp.objs.size + 1) = some (HandSPX.excO C hp.objs.size) := by heap_get
  have I2 := I1.laid (t' := tk) (a := hp.objs.size + 1) (o := exo (hp.objs.size + 1) C none) (h' := (hp.push (PySem.W.kdv_tup us)).push (HandSPX.excO C hp.objs.size)) kk hsz (exo_ok hget)
  have r2 : Vals (V.ref (hp.objs.size + 1) :: vs) (Value.ref (hp.objs.size + 1) :: us) := .cons rfl r1
  have hl : (Value.ref (hp.objs.size + 1) :: us ++ []).length = ps.length := by
    rw [List.append_nil]
    exact r2.length.symm.trans (F.lenG _ _ _ _ hq)
  have hus : us.length ≤ sizeLine := by
    rw [← Paired.length r1, sizeLine_eq]
    omega
  have hb2 := hb ⟨(hp.push (PySem.W.kdv_tup us)).push (HandSPX.excO C hp.objs.size), g, dr, tk, os⟩ (Value.ref (hp.objs.size + 1) :: us) I2.kIn hl
  rw [List.append_nil] at hb2
  have go := F.runG (X.A.under (.builtin "type.__call__" ⟨.ref C :: us, []⟩)) X.stack _ _ ⟨Value.ref (hp.objs.size + 1) :: us, []⟩ _ (Value.ref (hp.objs.size + 1) :: us) _ _ (fun _ _ _ => False) (fun z => nomatch z) (hr.make C us []) (I2.env0.make C us []) hb2 (.refl _) r2 hq
  refine wpAny_call (HandSPX.call_own T.fb hT hC (PySem.W.looks_findIn I1.kIn iC) (fun self => PySem.W.bind_fn I1.kIn self tI) hus (codeAny_mono go fun r s' hq' => ?_))
  match r, hq' with
  | .error er, hq' => exact hx pins σ _ _ er s' I2 hq'
  | .ok (.ret u), hq' =>
    obtain ⟨v, H2, os2, bare2, un2, hok2, rv, rfl, d, fs, ea, ed, hd1, q2⟩ := hq'
    obtain ⟨h2, g2, d2, t2, os'⟩ := s'
    exact ⟨rv, mk_end (raises_own T.exC T.tyC) I1 hsz kk un2 hok2 os2 bare2 ea ed hd1 q2⟩
  | .ok .next, hq' => cases hq'
  | .ok .brk, hq' => cases hq'
  | .ok .cont, hq' => cases hq'
end
end RC

namespace RC
open PySem PySem.Spec PyProof.Rows L2
/-! ### raise X(e) -/
def spX (C : Addr) (f : Str) : Sp := fun vs H Q _ => ∃ (a : Addr) (v : V), vs = [.ref a, v] ∧ H a = some (exo a C none) ∧ ∀ dx, H dx = none → dx ≠ a → Q .non (upd (upd H dx (exd dx [(f, v)])) a (exo a C (some dx)))
theorem lenX {C : Addr} {f : Str} (vs : List V) (H : Hp) (Q : VK) (E : XK) (h : spX C f vs H Q E) : vs.length = 2 := by
  obtain ⟨a, v, rfl, _⟩ := h
  rfl
def tXz (C : Addr) (f : Str) (te : TE) : L2.St → Hp → XK → Prop := fun σ H Q => te σ H fun v H1 => ∀ d, H1 d = none → Q (.ref C) (some d) (upd H1 d (.xd [(f, v)]))
theorem PE.wk {X : Cx} {e : Expr} {te : TE} (h : PE X e te) : PE X e (fun σ H Q => ∃ R : VK, te σ H R ∧ ∀ v H1, R v H1 → Q v H1) :=
  ⟨fun pins s σ H _ I ⟨R, h1, h2⟩ => thn (h.run pins s σ H R I h1) fun _ _ ⟨v, H1, I1, r, q⟩ => ⟨v, H1, I1, r, h2 v H1 q⟩⟩
theorem pmk_xz {X : Cx} {CX : CXT} {x f : Str} {C fI : Addr} {k : Nat} {fd : FuncData} {ps : List Str} {B newId initId : String} {bmB : List Value} {e : Expr} {te : TE} {p pos : Pos} (T : XcB X.K C B newId initId bmB) (iC : PySem.W.findIn X.K (.ref C) "__init__" = some (some (.ref fI)))
    (tI : PySem.W.typeIn X.K (.ref fI) = some (.type "function")) (F : FnX false X.prog X.w X.K X.mg X.base CX k fI fd ps (spX C f)) (hr : Room (k + 1) X.A) (hb : Binds X.K fd ps []) (hx : Passes CX X (fun _ _ _ => False)) (hg : Gl X x) (hm : X.mg x = some (.ref C)) (ha : PE X e te)
    (hdb : (x == ("__debug__" : Str)) = false := by decide) (he : starEach [e] X.env = (false, eval e X.env) :: starEach [] X.env := by rfl) :
    PMk X (.Call (.Name x p) [e] [] pos) (tXz C f te) := by
  have key : ∀ (Q : XK) (v : V) (H1 : Hp), (∀ d, H1 d = none → Q (.ref C) (some d) (upd H1 d (.xd [(f, v)]))) → [v].length ≤ 1000 ∧ ∀ a, H1 a = none → spX C f (.ref a :: [v]) (upd H1 a (exo a C none))
      (fun v H2 => v = .non ∧ ∃ (d : Addr) (fs : List (Str × V)), H2 a = some (exo a C (some d)) ∧ H2 d = some (exd d fs) ∧ H1 d = none ∧ Q (.ref C) (some d) (upd (del H2 a) d (.xd fs))) (fun _ _ _ => False) := by
    intro Q v H1 q
    refine ⟨by simp, fun a na => ⟨a, v, rfl, upd_same, fun dx hdx hne => ⟨rfl, dx, [(f, v)], upd_same, ?_, ?_, ?_⟩⟩⟩
    · rw [upd_ne hne, upd_same]
    · rw [upd_ne hne] at hdx
      exact hdx
    · have e1 : upd (del (upd (upd (upd H1 a (exo a C none)) dx (exd dx [(f, v)])) a (exo a C (some dx))) a) dx (.xd [(f, v)]) = upd H1 dx (.xd [(f, v)]) := by
        funext b
        by_cases hb : b = dx
        · subst hb
          rw [upd_same, upd_same]
        · rw [upd_ne hb, upd_ne hb]
          by_cases hba : b = a
          · subst hba
            rw [del_same, na]
          · rw [del_ne hba, upd_ne hba, upd_ne hb, upd_ne hba]
      rw [e1]
      rw [upd_ne hne] at hdx
      exact q dx hdx
  intro pins s σ H Q I h
  have hp := pa_cons (PE.wk ha) (pa_nil (X := X)) he
  exact pmk_x (p := p) (pos := pos) T iC tI F hr hb hx hg hm hp hdb he rfl pins s σ H Q I ⟨_, h, fun v H1 q => key Q v H1 q⟩
/-- raise X(e) -/
def tRz (W : WX) (C : Addr) (f : Str) (te : TE) : TS := fun _ σ H => te σ H fun v H1 => ∀ d, H1 d = none → W (.ref C) (some d) σ (upd H1 d (.xd [(f, v)]))
theorem ps_rz {X : Cx} {W : WX} {CX : CXT} {x f : Str} {C fI : Addr} {k : Nat} {fd : FuncData} {ps : List Str} {B newId initId : String} {bmB : List Value} {e : Expr} {te : TE} {p pos pos' : Pos} (hc : X.calm = true) (tk : Takes X W) (T : XcB X.K C B newId initId bmB)
    (iC : PySem.W.findIn X.K (.ref C) "__init__" = some (some (.ref fI))) (tI : PySem.W.typeIn X.K (.ref fI) = some (.type "function")) (F : FnX false X.prog X.w X.K X.mg X.base CX k fI fd ps (spX C f)) (hr : Room (k + 1) X.A) (hb : Binds X.K fd ps []) (hx : Passes CX X (fun _ _ _ => False))
    (hg : Gl X x) (hm : X.mg x = some (.ref C)) (ha : PE X e te) (hdb : (x == ("__debug__" : Str)) = false := by decide) (he : starEach [e] X.env = (false, eval e X.env) :: starEach [] X.env := by rfl) :
    PS X (.Raise (some (.Call (.Name x p) [e] [] pos)) none pos') (tRz W C f te) := ps_raise hc tk (pmk_xz T iC tI F hr hb hx hg hm ha hdb he)
/-- the reading of such an __init__ -/
theorem pureX {K : PySem.W.Frag} {C : Addr} {f msg : Str} {B newId initId : String} {bmB : List Value} {N : List Str} (hN : start N [] = [none, none]) (T : XcB K C B newId initId bmB) (hno : PySem.W.findIn K (.ref C) f = some none) (vs : List V) (H : Hp) (Q : VK) (E : XK) (h : spX C f vs H Q E) :
    tSeq (tDrop (tXi K initId (tCons (tVar 0) (tCons (tC (.str msg)) tNil)))) (tXs K f (tVar 0) (tVar 1)) { nx := fun _ H' => Q .non H', rt := Q } (start N vs) H := by
  obtain ⟨a, v, rfl, ha, q⟩ := h
  have e : start N [V.ref a, v] = [some (V.ref a), some v] := by
    have l : N.length = 2 := by
      have := congrArg List.length hN
      simpa [L2.start] using this
    simp [L2.start, l]
  rw [e]
  exact ⟨_, rfl, a, C, [.str msg], B, newId, bmB, rfl, by simp, T, ha, v, rfl, _, rfl, a, C, B, newId, initId, bmB, rfl, T, hno, ha, q⟩

/-! ### try: body, except clauses of any form -/
/-- a clause's test: evaluated in the suite's context it tells whether the exception is of one of the classes cs -/
def TestOk (X : Cx) (t : Expr) (cs : List Value) : Prop := ∀ (a : Addr) (oe : Obj) (pn pins : List (Addr × Obj)) (σ : L2.St) (H : Hp) (s : Shared) (cls : Value) (b : Bool) (Q : Bool → Shared → Prop) (E : Value → Shared → Prop),
  Inv (X.suite a ((a, oe) :: pn)) pins σ H s → PySem.W.Looks (model X.prog X.w) s.heap (typeOf (.ref a)) cls → PySem.W.exmAny X.K cls cs = some b →
    (∀ h', (∀ q o, s.heap.get? q = some o → h'.get? q = some o) → Q b { s with heap := h' }) →
      wpAny (model X.prog X.w) (X.A.mark (some (.ref a))) (eval t X.env) (fun c s1 => wpAny (model X.prog X.w) (X.A.mark (some (.ref a))) (excMatches (.ref a) c) Q E s1) E s
section
variable {X : Cx} {x1 x2 x3 : Str} {c1 c2 c3 : Value} {p1 p2 p3 tp : Pos} {kk : Nat}
theorem nameAt {a : Addr} {oe : Obj} {pn pins : List (Addr × Obj)} {σ : L2.St} {H : Hp} {s : Shared} {Q : Value → Shared → Prop} {E : Value → Shared → Prop} (hc : Names X x1 c1) (I : Inv (X.suite a ((a, oe) :: pn)) pins σ H s) (q : Q c1 s) :
    wpAny (model X.prog X.w) (X.A.mark (some (.ref a))) (eval (.Name x1 p1) X.env) Q E s := by
  obtain ⟨hg, hdbg, hm | ⟨hm, hv, hnn⟩⟩ := hc
  · exact ld_glob (X := X.suite a ((a, oe) :: pn)) I hg hm q hdbg
  · exact ld_blt (X := X.suite a ((a, oe) :: pn)) I hg hm hv q hnn hdbg
theorem test1 (hc : Names X x1 c1) : TestOk X (.Name x1 p1) [c1] := by
  intro a oe pn pins σ H s cls b Q E I LT he q
  obtain ⟨b1, d1, e1, e2, rfl⟩ := PySem.W.exmAny_cons he
  cases e2
  rw [Bool.or_false] at q
  exact nameAt hc I ((PySem.W.exm_one I.kIn LT e1).here (q s.heap fun _ _ z => z))
theorem test2 (h1 : Names X x1 c1) (h2 : Names X x2 c2) : TestOk X (.Tuple [.Name x1 p1, .Name x2 p2] kk tp) [c1, c2] := by
  intro a oe pn pins σ H s cls b Q E I LT he q
  refine wpAny_Tuple (wpAny_items_cons (nameAt h1 I ?_))
  refine wpAny_items_cons (nameAt h2 I (wpAny_items_nil ⟨by size_fits, ?_⟩))
  have kp : ∀ q o, s.heap.get? q = some o → (s.heap.push { cls := .type "tuple", data := .seq [c1, c2].toArray }).get? q = some o := fun _ _ z => Heap.get?_push_of_some _ z
  exact (PySem.W.exm_tup2 (I.kIn.keeps kp) (LT.keeps kp) (Heap.get?_push_size s.heap rfl) he).here (q _ kp)
theorem test3 (h1 : Names X x1 c1) (h2 : Names X x2 c2) (h3 : Names X x3 c3) : TestOk X (.Tuple [.Name x1 p1, .Name x2 p2, .Name x3 p3] kk tp) [c1, c2, c3] := by
  intro a oe pn pins σ H s cls b Q E I LT he q
  refine wpAny_Tuple (wpAny_items_cons (nameAt h1 I ?_))
  refine wpAny_items_cons (nameAt h2 I (wpAny_items_cons (nameAt h3 I (wpAny_items_nil ⟨by size_fits, ?_⟩))))
  have kp : ∀ q o, s.heap.get? q = some o → (s.heap.push { cls := .type "tuple", data := .seq [c1, c2, c3].toArray }).get? q = some o := fun _ _ z => Heap.get?_push_of_some _ z
  exact (PySem.W.exm_tup3 (I.kIn.keeps kp) (LT.keeps kp) (Heap.get?_push_size s.heap rfl) he).here (q _ kp)
end
/-- a clause: its classes, the slot of its name, its suite -/
structure Hd where
  cs : List Value
  sl : Option Nat
  ts : Addr → Value → Option Addr → TS
def Hd.put (σ : L2.St) (a : Addr) : Option Nat → L2.St
  | none => σ
  | some i => σ.set i (some (.ref a))
def Hd.ends (D : Ends) : Option Nat → Ends
  | none => D
  | some i => { nx := fun σ' H' => D.nx (σ'.set i none) H', rt := D.rt, bk := fun σ' H' => D.bk (σ'.set i none) H', ct := fun σ' H' => D.ct (σ'.set i none) H' }
def wTry (K : PySem.W.Frag) (W : WX) (D : Ends) : List Hd → WX
  | [] => W
  | h :: r => fun cls d σ H => ∃ b, PySem.W.exmAny K cls h.cs = some b ∧ (b = true → ∀ a, H a = none → h.ts a cls d (Hd.ends D h.sl) (Hd.put σ a h.sl) H) ∧ (b = false → wTry K W D r cls d σ H)
inductive HdOk (X : Cx) : List ExceptHandler → List Hd → Prop
  | nil : HdOk X [] []
  | plain {t : Expr} {cs : List Value} {ts : Addr → Value → Option Addr → TS} {b₀ : Stmt} {suite : List Stmt} {pos : Pos} {hds : List ExceptHandler} {l : List Hd} (ht : TestOk X t cs)
      (hsu : ∀ (a : Addr) (oe : Obj) (cls : Value) (d : Option Addr) (pn : List (Addr × Obj)), Zc cls d oe → (∃ vs, oe.data = .fields vs) → PSs (X.suite a ((a, oe) :: pn)) (b₀ :: suite) (ts a cls d)) (r : HdOk X hds l) :
      HdOk X (.ExceptHandler (some t) none (b₀ :: suite) pos :: hds) (⟨cs, none, ts⟩ :: l)
  | named {t : Expr} {cs : List Value} {n : Str} {i : Nat} {ts : Addr → Value → Option Addr → TS} {b₀ : Stmt} {suite : List Stmt} {pos : Pos} {hds : List ExceptHandler} {l : List Hd} (ht : TestOk X t cs) (hi : X.N[i]? = some n) (hln : X.env.kindOf n = some .local)
      (hsu : ∀ (a : Addr) (oe : Obj) (cls : Value) (d : Option Addr) (pn : List (Addr × Obj)), Zc cls d oe → (∃ vs, oe.data = .fields vs) → PSs (X.suite a ((a, oe) :: pn)) (b₀ :: suite) (ts a cls d)) (r : HdOk X hds l) :
      HdOk X (.ExceptHandler (some t) (some n) (b₀ :: suite) pos :: hds) (⟨cs, some i, ts⟩ :: l)
theorem flying_kept {B : Heap} {l : List Env} {a : Addr} {Z : Obj → Prop} {h h' : Heap} (fl : HandSPX.FlyingZ B l a Z h) (k : ∀ b o, h.get? b = some o → h'.get? b = some o) : HandSPX.FlyingZ B l a Z h' := by
  obtain ⟨f1, f2, f3, oe, vs, T, oT, ts, he, hz, hd, h1, hn, hne, hT, hdT, h3⟩ := fl
  exact ⟨fun b o q => k b o (f1 b o q), f2, f3.of_keeps fun b o q _ => ⟨o, k b o q, rfl⟩, oe, vs, T, oT, ts, k _ _ he, hz, hd, h1, hn, hne, k _ _ hT, hdT, h3⟩
section
variable {X : Cx} {body : List Stmt} {h₀ : ExceptHandler} {hds : List ExceptHandler} {l : List Hd} {pos : Pos} {tb : WX → TS} {W : WX}
theorem ps_tryG (hs : X.stack = X.env :: X.outer) (hf : X.env.frame = some X.env.locals) (hN : X.N.Nodup) (tk : Takes X W)
    (hb : ∀ (W' : WX) (pn : List (Addr × Obj)) (xe : Value → Shared → Prop), Takes (X.tr pn xe) W' → PassesOwn (model X.prog X.w) X.A X.env xe → PSs (X.tr pn xe) body (tb W'))
    (hh : HdOk X (h₀ :: hds) l) : PS X (.Try body (h₀ :: hds) [] [] pos) (fun D σ H => tb (wTry X.K W D l) D σ H) := by
  constructor
  intro pins s σ H D I h
  have ok := I.ok
  have hfr : X.A.frames = some (X.env :: X.outer) := ok.frames.trans (by rw [hs])
  refine wpAny_Try_except ?_
  let xe : Value → Shared → Prop := fun e s₁ => wpAny (model X.prog X.w) X.A (noteFrame e X.env) (fun _ s₂ => wpAny (model X.prog X.w) X.A (setFlight e none)
    (fun _ s₃ => wpAny (model X.prog X.w) X.A (handleBy e X.env (h₀ :: hds)) (SP X pins D) X.xe s₃) X.xe s₂) X.xe s₁
  have tkb : Takes (X.tr (X.pn ++ pins) xe) (wTry X.K W D l) := by
    rintro u s' ⟨a, B, sI, pins', σ', H', cls, d, rfl, J', nb, up, sky, na, os, ag, w⟩
    have J : Inv X pins σ' H' sI := J'.ofTry ok
    have sky' : Sky B (X.env :: X.outer) a (Zc cls d) X.env.locals s'.heap := hs ▸ sky
    show wpAny (model X.prog X.w) X.A (noteFrame (.ref a) X.env) _ _ _
    refine Sky.land Zc.steady hfr hf sky' fun h3 fl3 up3 => ?_
    have main : ∀ {hds' : List ExceptHandler} {l' : List Hd}, HdOk X hds' l' → wTry X.K W D l' cls d σ' H' → ∀ h3, HandSPX.FlyingZ B (X.env :: X.outer) a (Zc cls d) h3 → sI.heap.UpToSlots h3 →
        wpAny (model X.prog X.w) X.A (handleBy (.ref a) X.env hds') (SP X pins D) X.xe { s' with heap := h3 } := by
      intro hds' l' hk
      have place : ∀ {h3 : Heap}, HandSPX.FlyingZ B (X.env :: X.outer) a (Zc cls d) h3 → sI.heap.UpToSlots h3 →
          ∃ oe, Zc cls d oe ∧ (∃ vs, oe.data = .fields vs) ∧ Inv (X.suite a ((a, oe) :: (X.pn ++ pins))) [] σ' H' { s' with heap := h3 } ∧ PySem.W.Looks (model X.prog X.w) h3 (typeOf (.ref a)) cls := by
        intro h3 fl up
        have J3 : Inv X pins σ' H' { s' with heap := h3 } := J.landed nb fl.1 up os ag
        obtain ⟨oe, vs, he, hz, hd⟩ := fl.there
        have nfr : a ∉ frs (X.env :: X.outer) := fun hm => by
          obtain ⟨_, o', e', hnf⟩ := fl.2.2.1.mem hm
          rw [he] at e'
          cases e'
          exact hnf _ hd
        have nL : a ≠ X.env.locals := fun z => nfr (List.mem_filterMap.mpr ⟨X.env, List.mem_cons_self, by rw [hf, z]⟩)
        have nF : a ∉ X.fs := fun hm => by
          obtain ⟨e, he, q⟩ := List.mem_filterMap.mp hm
          exact nfr (List.mem_filterMap.mpr ⟨e, List.mem_cons_of_mem _ he, q⟩)
        exact ⟨oe, hz, ⟨vs, hd⟩, J3.suite he hd na nL nF, fun A Q E s k q => wpAny_typeOf_ref (k _ _ he) (by rw [hz.1]; exact q)⟩
      induction hk with
      | nil =>
        intro w h3 fl3 up3
        refine wpAny_handleBy_nil ?_
        obtain ⟨k1, k2, k3, oe, vs, T, oT, ts', he, hz, hd, h1, hr⟩ := id fl3
        unfold PySem.passOn
        refine wpAny_bind (wpAny_field he hd h1 ?_)
        rw [if_neg (show ¬ ((Value.ref T == Value.none) = true) from by simp)]
        have fin : wpAny (model X.prog X.w) X.A (setFlight (.ref a) X.env.frame) (fun _ s4 => wpAny (model X.prog X.w) X.A (throw (.ref a) : Sem Flow) (SP X pins D) X.xe s4) X.xe { s' with heap := h3 } := by
          rw [hf]
          refine HandSPX.setFlight_upZ fl3 fun h4 hh4 up4 => wpAny_throw (tk _ _ ⟨a, B, sI, pins, σ', H', cls, d, rfl, J, nb, up3.trans up4, .inr (.inr ?_), na, os, ag, w⟩)
          rw [hs]
          exact hh4
        first
          | exact wpAny_bind (wpAny_pure (wpAny_bind fin))
          | exact wpAny_bind fin
      | @plain t cs ts b₀ suite pos hds2 l2 ht hsu r ih =>
        rintro ⟨b, hb1, hyes, hno⟩ h3 fl3 up3
        obtain ⟨oe3, _, _, S3, LT⟩ := place fl3 up3
        refine wpAny_handleBy_cons (codeAny_handlers_test (ht a oe3 _ [] σ' H' _ cls b _ _ S3 LT hb1 fun h4 k4 => ?_)) (by intro q; cases q)
        have fl4 := flying_kept fl3 k4
        have up4 := up3.trans (Heap.UpToSlots.of_keeps k4)
        cases b with
        | true =>
          refine codeAny_handlers_suite ?_
          refine HandSPX.lands_againZ fl4 fun h5 fl5 up5 => ?_
          obtain ⟨oe5, hz5, hd5, S5, _⟩ := place fl5 (up4.trans up5)
          refine wpAny_mono ((hsu a oe5 cls d (X.pn ++ pins) hz5 hd5).run [] _ _ H' _ S5 (hyes rfl a na)) (fun f s6 hsp => ?_) (fun _ _ z => False.elim z)
          match f, hsp with
          | .next, ⟨σ6, H6, S6, q6⟩ => exact ⟨_, _, S6.unsuite ok, q6⟩
          | .brk, ⟨σ6, H6, S6, q6⟩ => exact ⟨_, _, S6.unsuite ok, q6⟩
          | .cont, ⟨σ6, H6, S6, q6⟩ => exact ⟨_, _, S6.unsuite ok, q6⟩
          | .ret u, ⟨v6, σ6, H6, S6, r6, q6⟩ => exact ⟨_, _, _, S6.unsuite ok, r6, q6⟩
        | false => exact ih (hno rfl) h4 fl4 up4
      | @named t cs n i ts b₀ suite pos hds2 l2 ht hi hln hsu r ih =>
        rintro ⟨b, hb1, hyes, hno⟩ h3 fl3 up3
        obtain ⟨oe3, _, _, S3, LT⟩ := place fl3 up3
        refine wpAny_handleBy_cons (codeAny_handlers_test (ht a oe3 _ [] σ' H' _ cls b _ _ S3 LT hb1 fun h4 k4 => ?_)) (by intro q; cases q)
        have fl4 := flying_kept fl3 k4
        have up4 := up3.trans (Heap.UpToSlots.of_keeps k4)
        cases b with
        | true =>
          refine codeAny_handlers_suite_as ?_
          refine HandSPX.lands_againZ fl4 fun h5 fl5 up5 => ?_
          obtain ⟨oe5, hz5, hd5, S5, _⟩ := place fl5 (up4.trans up5)
          refine store_ok (X := X.suite a ((a, oe5) :: (X.pn ++ pins))) (v := .ref a) S5 hN hi (.inl hln) rfl (fun s7 S7 => ?_) (.inr hln)
          refine wpAny_mono ((hsu a oe5 cls d (X.pn ++ pins) hz5 hd5).run [] s7 _ H' _ S7 (hyes rfl a na)) (fun f s6 hsp => ?_) (fun _ _ z => False.elim z)
          have end_ : ∀ {σ6 : L2.St} {H6 : Hp} {Q : Shared → Prop}, Inv (X.suite a ((a, oe5) :: (X.pn ++ pins))) [] σ6 H6 s6 → (∀ s7, Inv X pins (σ6.set i none) H6 s7 → Q s7) →
              wpAny (model X.prog X.w) X.A (do bindName X.env n .none; unbindBehindTheSuite X.env n pos) (fun _ s7 => Q s7) X.xe s6 := fun S6 hq => gone_ok (S6.unsuite ok) hN hi hln hq
          match f, hsp with
          | .next, ⟨σ6, H6, S6, q6⟩ => exact end_ S6 fun s7 J7 => ⟨_, _, J7, q6⟩
          | .brk, ⟨σ6, H6, S6, q6⟩ => exact end_ S6 fun s7 J7 => ⟨_, _, J7, q6⟩
          | .cont, ⟨σ6, H6, S6, q6⟩ => exact end_ S6 fun s7 J7 => ⟨_, _, J7, q6⟩
          | .ret u, ⟨v6, σ6, H6, S6, r6, q6⟩ => exact end_ S6 fun s7 J7 => ⟨_, _, _, J7, r6, q6⟩
        | false => exact ih (hno rfl) h4 fl4 up4
    exact main hh w h3 fl3 (up.trans up3)
  refine wpAny_mono ((hb (wTry X.K W D l) (X.pn ++ pins) xe tkb PassesOwn.looking).run [] s σ H D (I.toTry _) h) (fun f s1 hsp => ?_) (fun e s1 he => he)
  match f, hsp with
  | .next, ⟨σ', H', J', q⟩ => exact wpAny_execs_nil ⟨σ', H', J'.ofTry ok, q⟩
  | .brk, ⟨σ', H', J', q⟩ => exact ⟨σ', H', J'.ofTry ok, q⟩
  | .cont, ⟨σ', H', J', q⟩ => exact ⟨σ', H', J'.ofTry ok, q⟩
  | .ret u, ⟨v, σ', H', J', r, q⟩ => exact ⟨v, σ', H', J'.ofTry ok, r, q⟩
end
end RC

namespace RC
open PySem PySem.Spec PyProof.Rows L2
/-! ### the exception that a suite holds -/
def KnX (K : PySem.W.Frag) (cls : Value) (d : Option Addr) (H : Hp) : Prop := ∃ D, cls = .ref D ∧ ExcC K D ∧ (d = none ∨ ∃ dd fs, d = some dd ∧ H dd = some (.xd fs))
def rIsX (K : PySem.W.Frag) (a : Addr) (cls : Value) (d : Option Addr) : List V → Hp → VK → Prop := fun xs H Q => ∃ (c : V) (cv : Value) (b : Bool), xs = [.ref a, c] ∧ KnX K cls d H ∧ ClsV c cv ∧ PySem.W.kitOne K cls cv = some b ∧ Q (.bl b) H
def rIsXT (K : PySem.W.Frag) (a : Addr) (cls : Value) (d : Option Addr) : List V → Hp → VK → Prop := fun xs H Q => ∃ (tp : Addr) (cs : List V) (us : List Value) (b : Bool), xs = [.ref a, .ref tp] ∧ KnX K cls d H ∧ H tp = some (.tup cs) ∧ Paired ClsV cs us ∧ PySem.W.kitAny K cls us = some b ∧ Q (.bl b) H
def uIsX (K : PySem.W.Frag) (a : Addr) (cls : Value) (d : Option Addr) : List V → Hp → VK → Prop := fun xs H Q => rIsX K a cls d xs H Q ∨ rIsXT K a cls d xs H Q
def tXg (K : PySem.W.Frag) (a : Addr) (cls : Value) (d : Option Addr) (n : Str) (te : TE) : TE := fun σ H Q => te σ H fun x H1 => x = .ref a ∧ ∃ D dd fs v, cls = .ref D ∧ ExcC K D ∧ PySem.W.findIn K (.ref D) n = some none ∧ d = some dd ∧ H1 dd = some (.xd fs) ∧ fs.lookup n = some v ∧ Q v H1
section
variable {X : Cx} {a D : Addr} {oe : Obj} {cls : Value} {d : Option Addr}
theorem inst_at {pins : List (Addr × Obj)} {σ : L2.St} {H : Hp} {s : Shared} (hp : (a, oe) ∈ X.pn) (hz : Zc (.ref D) d oe) (hf : ∃ vs, oe.data = .fields vs) (I : Inv X pins σ H s) (hd : d = none ∨ ∃ dd fs, d = some dd ∧ H dd = some (.xd fs)) :
    ∃ od, PySem.W.InstAt s.heap a oe D od := by
  obtain ⟨ha, _⟩ := I.pin (a, oe) (List.mem_append_left _ hp)
  obtain ⟨vs, hv⟩ := hf
  have nc : PySem.W.notCls oe = true := by
    unfold PySem.W.notCls
    rw [hv] <;> rfl
  rcases hd with rfl | ⟨dd, fs, rfl, e⟩
  · exact ⟨none, ha, hz.1, nc, by rw [hz.2]; trivial⟩
  · obtain ⟨mA, ⟨o, es, ep, e1, e2⟩, hr⟩ := (show ObjOk X.prog X.w H s.heap dd (.xd fs) from I.hok dd _ e)
    exact ⟨some o, ha, hz.1, nc, by rw [hz.2]; exact e1⟩
theorem kit_exc {K : PySem.W.Frag} {od : Option Obj} (C : ExcC K D) : PySem.W.KitX K (.ref a) (.ref D) (fun h => PySem.W.InstAt h a oe D od) :=
  PySem.W.kitx_exc (by obtain ⟨cd, hc, _⟩ := PySem.W.any_some C.hd; rw [hc]; rfl) C.hg C.hk C.hs C.ha C.hn C.ht C.hm
theorem cr_isX (hp : (a, oe) ∈ X.pn) (hz : Zc cls d oe) (hf : ∃ vs, oe.data = .fields vs) : CallR X (.builtin "isinstance") (uIsX X.K a cls d) := by
  intro pins s σ H xs us Q I r h
  rcases h with ⟨c, cv, b, rfl, ⟨D, rfl, C, hd⟩, k, e, q⟩ | ⟨tp, cs, ws, b, rfl, ⟨D, rfl, C, hd⟩, hT, k, e, q⟩
  · obtain ⟨u1, u2, rfl, r1, r2⟩ := vals2 r
    cases (show u1 = Value.ref a from r1)
    cases k.eq r2
    obtain ⟨od, J⟩ := inst_at hp hz hf I hd
    exact PySem.W.kia_one (kit_exc C) I.kIn J e (fun z => nomatch z) fun tk => ⟨.bl b, H, I.tok tk, rfl, q⟩
  · obtain ⟨u1, u2, rfl, r1, r2⟩ := vals2 r
    cases (show u1 = Value.ref a from r1)
    cases (show u2 = Value.ref tp from r2)
    obtain ⟨od, J⟩ := inst_at hp hz hf I hd
    obtain ⟨_, its, rv, o, h1, h2, n, h3⟩ := (show ObjOk X.prog X.w H s.heap tp (.tup cs) from I.hok tp _ hT)
    cases ClsV.all k rv
    obtain ⟨oc, od2, dt, sl⟩ := o
    simp only at h2 h3
    subst h2 h3
    exact PySem.W.kia_tup (kit_exc C) I.kIn J h1 e (fun z => nomatch z) fun tk => ⟨.bl b, H, I.tok tk, rfl, q⟩
theorem pe_xg {e : Expr} {te : TE} {pos : Pos} {n : Str} (hp : (a, oe) ∈ X.pn) (hz : Zc cls d oe) (hf : ∃ vs, oe.data = .fields vs) (he : PE X e te) (hb : attributeBase e n X.env (eval e X.env) = eval e X.env := by rfl) :
    PE X (.Attribute e n pos) (tXg X.K a cls d n te) := by
  constructor
  intro pins s σ H Q I h
  refine attr_of hb (thn (he.run pins s σ H _ I h) ?_)
  rintro u s1 ⟨x, H1, I1, rx, rfl, D, dd, fs, v, rfl, C, hno, rfl, ea, l, q⟩
  cases (show u = Value.ref a from rx)
  obtain ⟨ha, _⟩ := I1.pin (a, oe) (List.mem_append_left _ hp)
  obtain ⟨vs, hv⟩ := hf
  obtain ⟨mA, hns, hr⟩ := (show ObjOk X.prog X.w H1 s1.heap dd (.xd fs) from I1.hok dd _ ea)
  obtain ⟨od, ho, hl⟩ := lookIn_ns hns
  obtain ⟨u, hu, ru⟩ := RelO.some_of (v := v) (o := mA n) (by rw [← l]; exact hr n)
  have nc : PySem.W.notCls oe = true := by
    unfold PySem.W.notCls
    rw [hv] <;> rfl
  have J : PySem.W.InstAt s1.heap a oe D (some od) := ⟨ha, hz.1, nc, by rw [hz.2]; exact ho⟩
  exact HandSPX.exc_get I1.kIn J C.hg C.hk C.hs (PySem.W.findObj_own C.hd hno rfl (by rw [hl, hu])) (handed_of ru) ⟨v, H1, I1.tok _, ru, q⟩
end
/-! ### a def that is handed the exception in a suite -/
structure FnE (P : Program) (w : World) (K : PySem.W.Frag) (mg : Str → Option Value) (base : Heap) (k : Nat) (f : Addr) (fd : FuncData) (x : Str) (sp : Addr → Value → Option Addr → Hp → VK → Prop) : Prop where
  run : ∀ (A : Around) (outer : List Env) (s : Shared) (H : Hp) (args : Args) (Q : VK) (a : Addr) (oe : Obj) (cls : Value) (d : Option Addr), L2H.RoomH k A → Zc cls d oe → (∃ vs, oe.data = .fields vs) → L2H.PinOk outer H s (a, oe) → Env0 P w K mg base A outer s H →
    BindsTo s fd args [(x, .ref a)] → sp a cls d H Q → codeAny (model P w) A (.call (.ref f) args) (CR CX0 outer P w H s Q E0) s
theorem okE {P : Program} {w : World} {K : PySem.W.Frag} {mg : Str → Option Value} {base : Heap} {k : Nat} {f : Addr} {fd : FuncData} {x xq qual : Str} {params : Arguments} {body : List Stmt} {scope : Scope} {dvs : List V} {kws : List (Str × V)} {N : List Str}
    {sp : Addr → Value → Option Addr → Hp → VK → Prop} (D : FunD K xq qual params body scope dvs kws f fd) (S : FnScope N [x] scope)
    (hbody : ∀ (cdv : Value) (B : Around) (out : List Env) (t : Shared) (H : Hp) (Q : VK) (a : Addr) (oe : Obj) (cls : Value) (d : Option Addr), L2H.RoomH k (B.deeper (envOfC qual scope t.heap.objs.size f cdv)) → Zc cls d oe → (∃ vs, oe.data = .fields vs) → sp a cls d H Q →
      ∃ tr, PSs (L2H.cxH CX0 P w K mg base N qual scope f cdv B out t H E0 (a, oe)) body tr ∧ tr { nx := fun _ H' => Q .non H', rt := Q } (L2.start N [.ref a]) H) :
    FnE P w K mg base (k + 1) f fd x sp := by
  obtain ⟨⟨oc, od, dV, kV, doc, pm, an, cdv, ct, osl, rfl, lk, hcd, _, _⟩, _⟩ := D
  constructor
  intro A outer s H args Q a oe cls d hr hz hf hpin env hb hsp
  have hin : K.In s.heap := env.mod.kin.keeps fun b o q => (env.bs b o q).1
  have hno : s.heap.NoLimit := env.mod.nolimit.keeps fun b o q => (env.bs b o q).1
  have hk : ∀ y ∈ [x].zip [Value.ref a], scope.names.lookup y.1 = some .local ∨ (scope.names.lookup y.1 = some .cell ∧ ((cellsFrom (s.heap.objs.size + 1) scope.names []).lookup y.1).isSome = true) := by
    rintro ⟨n, v⟩ hy
    cases S.par n (List.of_mem_zip hy).1 with
    | inl q => exact .inl q
    | inr q => exact .inr ⟨q, PySem.W.cellsFrom_some _ _ _ (.inl q)⟩
  refine codeAny_call_function hr.depth (hin _ _ lk) rfl S.co S.gen rfl (PySem.W.codeRec_of hin hcd) (hb _ _ _ _ ?_)
  refine wpAny_newFunctionEnv_cells S.kind hk fun ev hev t1 ic => ?_
  subst hev
  refine ⟨hno.keeps ic.toInCall.keep, codeAny_func ?_⟩
  obtain ⟨tr, htr, hq⟩ := hbody cdv A outer s H Q a oe cls d (hr.deeper _) hz hf hsp
  have J : Inv (L2H.cxH CX0 P w K mg base N qual scope f cdv A outer s H E0 (a, oe)) [] (L2.start N [.ref a]) H t1 := L2H.inv_startH (us := [.ref a]) S hpin env rfl (.cons rfl .nil) ic
  refine wpAny_mono (htr.run [] t1 _ H _ J hq) (fun fl t2 z => ?_) fun _ _ z => z
  match fl, z with
  | .next, ⟨s2, H2, J2, q2⟩ => exact ⟨V.non, H2, J2.os, J2.bare, J2.base, J2.hok, rfl, q2⟩
  | .ret u, ⟨v2, s2, H2, J2, r2, q2⟩ => exact ⟨v2, H2, J2.os, J2.bare, J2.base, J2.hok, r2, q2⟩
  | .brk, ⟨_, _, _, q2⟩ => cases q2
  | .cont, ⟨_, _, _, q2⟩ => cases q2
/-- f(e), e the exception that is held -/
def tCallE (a : Addr) (cls : Value) (d : Option Addr) (sp : Addr → Value → Option Addr → Hp → VK → Prop) (te : TE) : TE := fun σ H Q => te σ H fun x H1 => x = .ref a ∧ sp a cls d H1 Q
theorem pe_callE {X : Cx} {a f : Addr} {oe : Obj} {cls : Value} {d : Option Addr} {k : Nat} {fd : FuncData} {x px : Str} {sp : Addr → Value → Option Addr → Hp → VK → Prop} {e : Expr} {te : TE} {p pos : Pos} (F : FnE X.prog X.w X.K X.mg X.base k f fd px sp) (hp : (a, oe) ∈ X.pn) (hz : Zc cls d oe)
    (hf : ∃ vs, oe.data = .fields vs) (hr : L2H.RoomH k X.A) (hg : Gl X x) (hm : X.mg x = some (.ref f)) (hk : PySem.W.keepIn X.K (.ref f) = true) (hb : Binds X.K fd [px] []) (ha : PE X e te)
    (hdb : (x == ("__debug__" : Str)) = false := by decide) (he : starEach [e] X.env = (false, eval e X.env) :: starEach [] X.env := by rfl) : PE X (.Call (.Name x p) [e] [] pos) (tCallE a cls d sp te) := by
  constructor
  intro pins s σ H Q I h
  refine wpAny_Call_Name_kw (ld_glob I hg hm ?_ hdb)
  have pa := pa_cons (PE.wk ha) (pa_nil (X := X)) he
  have body := thn (pa.run pos pins s σ H (fun vs H1 => vs = [.ref a] ∧ sp a cls d H1 Q) I ⟨_, h, fun v H1 z => ⟨by rw [z.1], z.2⟩⟩) (Q' := fun us s1 => X.K.In s1.heap ∧ wpAny (model X.prog X.w) X.A (call (.ref f) us) (EP X pins σ Q) X.xe s1) ?_
  · exact PySem.W.callWith_K (h₀ := X.base) I.ok.mod.kin hk body he rfl
  rintro us s1 ⟨vs, H1, I1, r1, rfl, q1⟩
  refine ⟨I1.kIn, ?_⟩
  obtain ⟨u, rfl, ru⟩ := vals1 r1
  cases (show u = Value.ref a from ru)
  have P1 := I1.pin (a, oe) (List.mem_append_left _ hp)
  have hpin : L2H.PinOk X.stack H1 s1 (a, oe) := ⟨P1.1, P1.2.1, fun hm => (List.mem_cons.mp (I1.stkSub a hm)).elim P1.2.2.1 P1.2.2.2.1, P1.2.2.2.2⟩
  have bb := hb s1 [.ref a] I1.kIn rfl
  have go := F.run X.A X.stack s1 H1 ⟨[.ref a], []⟩ Q a oe cls d hr hz hf hpin I1.env0 bb q1
  refine wpAny_call (codeAny_mono go fun r s' hq => ?_)
  match r, hq with
  | .error _, hq => exact hq.elim
  | .ok (.ret u), hq => exact I1.after hq
  | .ok .next, hq => cases hq
  | .ok .brk, hq => cases hq
  | .ok .cont, hq => cases hq
/-! ### the head's facts, any -/
def startsAt (g : Addr → Option Obj) : Nat → List Addr
  | 0 => [mainGlobals, cStatics]
  | n + 1 => He.growD g (startsAt g n)
def obsF (fa : List (PySem.W.Frag → Bool)) (fn : List He.DefD) (K : PySem.W.Frag) : He.AlD := ((fa.all fun f => f K) && fn.all fun d => d.ok K, fn.map fun d => He.fnW K d.at_)
def SaysF (fa : List (PySem.W.Frag → Bool)) (fn : List He.DefD) (K : PySem.W.Frag) : Prop := obsF fa fn K = He.valD fn
def obsFG (n : Nat) (fa : List (PySem.W.Frag → Bool)) (fn : List He.DefD) (g : Addr → Option Obj) : He.AlD := obsF fa fn (He.frG g (startsAt g n))
def hookF (n : Nat) (fa : List (PySem.W.Frag → Bool)) (fn : List He.DefD) : PySem.W.Hook where
  α := He.AlD
  obs := fun s => obsFG n fa fn s.heap.get?
  val := fun _ => He.valD fn
  says := fun _ h => ∃ K : PySem.W.Frag, K.In h ∧ SaysF fa fn K
  of := fun _ _ e => ⟨_, He.frG_in, e⟩
  keeps := fun _ _ _ ⟨K, hK, c⟩ k => ⟨K, PySem.W.Frag.In.keeps hK k, c⟩
theorem obsFG_eq {n : Nat} {fa : List (PySem.W.Frag → Bool)} {fn : List He.DefD} {g : Addr → Option Obj} {s : Shared} (h : ∀ a, g a = s.heap.get? a) : obsFG n fa fn g = (hookF n fa fn).obs s := by
  have e : g = s.heap.get? := funext h
  rw [e] <;> rfl
section
variable {fa : List (PySem.W.Frag → Bool)} {fn : List He.DefD} {K : PySem.W.Frag}
theorem SaysF.fact (c : SaysF fa fn K) (i : Nat) {f : PySem.W.Frag → Bool} (h : fa[i]? = some f := by rfl) : f K = true := by
  have c1 : ((fa.all fun f => f K) && fn.all fun d => d.ok K) = true := congrArg (fun z : He.AlD => z.1) c
  exact List.all_eq_true.mp (Bool.and_eq_true_iff.mp c1).1 f (List.mem_of_getElem? h)
theorem SaysF.def_ (c : SaysF fa fn K) (i : Nat) {d : He.DefD} (h : fn[i]? = some d := by rfl) : ∃ fd, FunD K d.name d.qual d.params d.body d.scope (d.dvs K) (d.kws K) (He.fAd K d.at_) fd := by
  have c1 : ((fa.all fun f => f K) && fn.all fun d => d.ok K) = true := congrArg (fun z : He.AlD => z.1) c
  have e : fn.map (fun d => He.fnW K d.at_) = fn.map He.DefD.val := congrArg (fun z : He.AlD => z.2) c
  have e2 : (fn.map fun d => He.fnW K d.at_)[i]? = (fn.map He.DefD.val)[i]? := by rw [e]
  rw [List.getElem?_map, List.getElem?_map, h] at e2
  exact He.DefD.funD (Option.some.inj e2) (List.all_eq_true.mp (Bool.and_eq_true_iff.mp c1).2 d (List.mem_of_getElem? h))
end
end RC

theorem L2H.RoomH.units {k : Nat} {A : PySem.Around} (r : L2H.RoomH k A) : A.units + 64 < PySem.cLine := by
  have := r.un
  omega
theorem L2H.RoomH.u65 {k : Nat} {A : PySem.Around} (r : L2H.RoomH k A) : A.units + 65 < PySem.cLine := by
  have := r.un
  omega
theorem L2H.RoomH.u1 {k : Nat} {A : PySem.Around} (r : L2H.RoomH k A) : A.units + 1 < PySem.cLine := by
  have := r.un
  omega
theorem L2.Room.u65 {k : Nat} {A : PySem.Around} (r : L2.Room k A) : A.units + 65 < PySem.cLine := by
  have := r.un
  omega
theorem L2.Room.u1 {k : Nat} {A : PySem.Around} (r : L2.Room k A) : A.units + 1 < PySem.cLine := by
  have := r.un
  omega
namespace RC
open PySem PySem.Spec PyProof.Rows L2
/-- no wish -/
def W0 : WX := fun _ _ _ _ => False
abbrev WT (E : XK) : WX := fun cls d _ H => E cls d H
theorem tk0 {X : Cx} : Takes X W0 := takes_none5
/-- a def that may raise -/
theorem okW {g : Bool} {P : Program} {w : World} {K : PySem.W.Frag} {mg : Str → Option Value} {base : Heap} {k : Nat} {f : Addr} {fd : FuncData} {ps : List Str} {sp : Sp} {x qual : Str} {params : Arguments} {body : List Stmt} {scope : Scope} {dvs : List V} {kws : List (Str × V)} {N : List Str}
    (D : FunD K x qual params body scope dvs kws f fd) (S : FnScope N ps scope) (hlen : ∀ vs H Q E, sp vs H Q E → vs.length = ps.length)
    (hbody : ∀ (cdv : Value) (B : Around) (out : List Env) (t : Shared) (H : Hp) (vs : List V) (Q : VK) (E : XK), (g = true → B.guards = some []) → Room k (B.deeper (envOfC qual scope t.heap.objs.size f cdv)) → sp vs H Q E →
      Takes (cxOf (L2.CX P w) P w K mg base N qual scope f cdv B out t H E) (WT E) → PassesOwn (model P w) (cxOf (L2.CX P w) P w K mg base N qual scope f cdv B out t H E).A (cxOf (L2.CX P w) P w K mg base N qual scope f cdv B out t H E).env (cxOf (L2.CX P w) P w K mg base N qual scope f cdv B out t H E).xe →
      ∃ tr, PSs (cxOf (L2.CX P w) P w K mg base N qual scope f cdv B out t H E) body tr ∧ tr { nx := fun _ H' => Q .non H', rt := Q } (L2.start N vs) H) :
    FnX g P w K mg base (L2.CX P w) (k + 1) f fd ps sp :=
  okX D S hlen fun cdv B out t H vs Q E hg hr hs => hbody cdv B out t H vs Q E hg hr hs (takes_of rfl rfl rfl rfl) (passes_of rfl)
section
variable {X : Cx}
theorem uo_inU (hu : X.A.units + 65 < cLine) : OpR X (compareOp .In) (uIn X.K) := op_in_seq.or ((op_inD hu).or ((op_din (by omega)).or op_in_str))
theorem uo_notinU (hu : X.A.units + 65 < cLine) : OpR X (compareOp .NotIn) (uNotIn X.K) := op_notIn_seq.or ((op_notInD hu).or ((op_dnotin (by omega)).or op_notin_str))
/-- d[k] by values -/
def rIxK : R2 := fun x y H Q => ∃ a v, x = .ref a ∧ DGet H a y (some v) ∧ Q v H
theorem ix_dk (hu : X.A.units + 1 < cLine) : IxR X rIxK := by
  intro value slice pins s σ H x y v u Q I rx ry h hs
  obtain ⟨a, r, rfl, hd, q⟩ := h
  cases (show v = Value.ref a from rx)
  exact tail_any (dict_typeIs I hd) PySem.F.slot_dict_getitem.lookup (d_getItem hu I hd ry fun w' s3 I3 rw' => ⟨r, H, I3, rw', q⟩) hs
def uIy (K : PySem.W.Frag) : R2 := fun x y H Q => rIx K x y H Q ∨ rIxK x y H Q
theorem ix_any2 (hu : X.A.units + 1 < cLine) : IxR X (uIy X.K) := ix_seq.or (ix_dk hu)
/-- xs.count(y), flat items -/
def rCntV (K : PySem.W.Frag) : V → List V → Hp → VK → Prop := fun x xs H Q => ∃ (a : Addr) (ys : List V) (y : V), x = V.ref a ∧ xs = [y] ∧ SqL K H a ys ∧ flatV y = true ∧ ys.all flatV = true ∧ Q (.int ((ys.countP fun z => eqV z y) : Nat)) H
theorem countP_vals {y : V} : ∀ {ys : List V} {its : List Value}, Vals ys its → ys.all flatV = true → its.countP (eqU y) = ys.countP fun z => eqV z y
  | _, _, .nil, _ => rfl
  | _, _, .cons r t, h => by
    rw [List.all_cons, Bool.and_eq_true] at h
    rw [List.countP_cons, List.countP_cons, countP_vals t h.2, eqU_of r h.1]
theorem mt_countV : MtR X "list.count" (rCntV X.K) := by
  intro pins s σ H x xs v us Q I rx rxs h
  obtain ⟨a, ys, y, rfl, rfl, hs, fy, fys, q⟩ := h
  cases rx
  obtain ⟨u, rfl, ru⟩ := rxs.one
  obtain ⟨its, rv, ⟨⟨cls, dd, data, sl⟩, n, ho, hc, hdn, hd⟩, hlen⟩ := I.list hs
  simp only at hc hd
  subst hc hd
  refine call_meets PySem.F.slot_list_count ⟨_, ho, rfl⟩ PySem.F.entry_list_count (PySem.F.args_list_count_2 _ _)
    (SeqAt.list_countAt a its.toArray n dd sl u (eqU y)) ⟨ho, fun u' hu' => mem_eqAt ru fy rv fys u' (by simpa using hu'), ?_⟩
  refine ⟨.int _, H, I.tok _, ⟨s.toks, ?_⟩, q⟩
  have e : its.toArray.toList.countP (eqU y) = ys.countP fun z => eqV z y := countP_vals rv fys
  rw [e]
/-- len(o) by an own __len__ -/
def rLenI (C : Addr) (sp : Sp) : List V → Hp → VK → Prop := fun xs H Q => ∃ a dx fs, xs = [.ref a] ∧ H a = some (.ins C dx fs) ∧ sp [.ref a] H (fun v H' => ∃ n : Int, v = .int n ∧ 0 ≤ n ∧ n < 2 ^ 63 ∧ Q (.int n) H') E0
theorem cr_lenI {C f : Addr} {k : Nat} {fd : FuncData} {ps : List Str} {sp : Sp} (hm : Meth X.K C "__len__" f) (F : FnX false X.prog X.w X.K X.mg X.base CX0 k f fd ps sp) (hr : Room (k + 1) X.A) (hb : Binds X.K fd ps []) : CallR X (.builtin "len") (rLenI C sp) := by
  intro pins s σ H xs us Q I r h
  obtain ⟨a, dx, fs, rfl, ea, q⟩ := h
  obtain ⟨u, rfl, ru⟩ := vals1 r
  cases (show u = Value.ref a from ru)
  obtain ⟨m, fr⟩ := I.fr
  obtain ⟨mA, O, _⟩ := ins_get I.hok ea
  obtain ⟨od, J, _⟩ := O.look
  refine PySem.W.len_K fr I.ok.mod.kin J hm.at_ hm.fn ?_
  have ll : ([Value.ref a] ++ []).length = ps.length := (F.lenG _ _ _ _ q).symm ▸ rfl
  have bb := hb s [.ref a] I.kIn ll
  have go := F.runG X.A.in1 X.stack s H ⟨[.ref a], []⟩ _ [.ref a] [.ref a] _ _ (fun z => nomatch z) hr.in1 I.env0.in1 bb (.refl _) (.cons rfl .nil) q
  refine wpAny_call (codeAny_mono go fun res s' hq => ?_)
  match res, hq with
  | .error _, hq => exact hq.elim
  | .ok (.ret u), hq =>
    obtain ⟨v, H', I', rv, n, rfl, h0, h1, q'⟩ := I.after hq
    obtain ⟨t, rfl⟩ := rv
    exact ⟨⟨h0, h1⟩, ⟨.int n, H', I'.tok _, ⟨_, rfl⟩, q'⟩⟩
  | .ok .next, hq => cases hq
  | .ok .brk, hq => cases hq
  | .ok .cont, hq => cases hq
end
def clsB : Stmt → List Stmt
  | .ClassDef _ _ _ body _ _ _ _ _ _ _ => body
  | _ => []
/-! ### checks of the head's part -/
abbrev mA (K : PySem.W.Frag) (c m : Str) : Addr := He.ma K (He.ga K c) m
def chB (K : PySem.W.Frag) (x : Str) (bmB : List Value) (newId : String) : Bool := PySem.W.excInitIn K (He.ga K x) bmB newId && (PySem.W.excOver K (He.ga K x) bmB && (PySem.W.hasDictIn K (He.ga K x) && (He.eqO (PySem.W.findIn K (.ref (He.ga K x)) "__setattr__") (some (some (.builtin "object.__setattr__"))) &&
  (decide (PySem.W.subIn K (.ref (He.ga K x)) (.type "BaseException") = some true) && (decide (PySem.W.typeIn K (.ref (He.ga K x)) = some (.type "type")) && PySem.W.keepIn K (.ref (He.ga K x)))))))
theorem chB_ok {K : PySem.W.Frag} {x : Str} {B newId initId : String} {bmB : List Value} (fb : ExcBaseFacts B newId initId bmB) (sf : StoreFacts B bmB "object.__setattr__" "object") (h : chB K x bmB newId = true) : XcB K (He.ga K x) B newId initId bmB := by
  obtain ⟨h1, h⟩ := He.ba h
  obtain ⟨h2, h⟩ := He.ba h
  obtain ⟨h3, h⟩ := He.ba h
  obtain ⟨h4, h⟩ := He.ba h
  obtain ⟨h5, h⟩ := He.ba h
  obtain ⟨h6, h7⟩ := He.ba h
  exact ⟨fb, sf, h1, h2, h3, He.eqO_ok h4, of_decide_eq_true h5, of_decide_eq_true h6, h7⟩
abbrev tlB (B : String) : List Value := [.type B, .type "Exception", .type "BaseException", .type "object"]
theorem chB_VE {K : PySem.W.Frag} {x : Str} (h : chB K x (tlB "ValueError") "ValueError.__new__" = true) : XcB K (He.ga K x) "ValueError" "ValueError.__new__" "ValueError.__init__" (tlB "ValueError") := chB_ok PySem.F.excBase_ValueError PySem.F.store_ValueError h
theorem chB_LE {K : PySem.W.Frag} {x : Str} (h : chB K x (tlB "LookupError") "LookupError.__new__" = true) : XcB K (He.ga K x) "LookupError" "LookupError.__new__" "LookupError.__init__" (tlB "LookupError") := chB_ok PySem.F.excBase_LookupError PySem.F.store_LookupError h
theorem chB_RE {K : PySem.W.Frag} {x : Str} (h : chB K x (tlB "RuntimeError") "RuntimeError.__new__" = true) : XcB K (He.ga K x) "RuntimeError" "RuntimeError.__new__" "RuntimeError.__init__" (tlB "RuntimeError") := chB_ok PySem.F.excBase_RuntimeError PySem.F.store_RuntimeError h
def chI (K : PySem.W.Frag) (x : Str) (initId : String) : Bool := He.eqO (PySem.W.specialIn K (.ref (He.ga K x)) "__getattribute__") (some (some (.builtin "type.__getattribute__"))) && (decide (PySem.W.typeIn K (.ref (He.ga K x)) = some (.type "type")) && (PySem.W.readsIn K (He.ga K x) (.type "type") &&
  (match PySem.W.findCls K (.ref (He.ga K x)) (.type "type") "__init__" with
    | some (.val (.builtin n)) => decide (n = initId)
    | _ => false)))
theorem chI_ok {K : PySem.W.Frag} {x : Str} {initId : String} (h : chI K x initId = true) : XcI K (He.ga K x) initId := by
  obtain ⟨h1, h⟩ := He.ba h
  obtain ⟨h2, h⟩ := He.ba h
  obtain ⟨h3, h4⟩ := He.ba h
  refine ⟨He.eqO_ok h1, of_decide_eq_true h2, h3, ?_⟩
  split at h4
  · rename_i n e
    rw [e, of_decide_eq_true h4]
  · cases h4
def chC (K : PySem.W.Frag) (x : Str) : Bool := He.eqO (PySem.W.findIn K (.ref (He.ga K x)) "__getattribute__") (some (some (.builtin "BaseException.__getattribute__"))) && (He.eqO (PySem.W.findIn K (.ref (He.ga K x)) "__getattr__") (some none) &&
  (decide (PySem.W.subIn K (.ref (He.ga K x)) (.type "BaseException") = some true) && (PySem.W.hasDictIn K (He.ga K x) && (He.eqO (PySem.W.findIn K (.ref (He.ga K x)) "__class__") (some (some (.builtin "object.__class__"))) &&
  (He.eqO (PySem.W.specialIn K (.builtin "object.__class__") "__get__") (some (some (.builtin "getset_descriptor.__get__"))) && (decide (PySem.W.takesIn K (.builtin "object.__class__") = some true) && decide (PySem.W.mroIn K (He.ga K x) (.type "object") = some true)))))))
theorem chC_ok {K : PySem.W.Frag} {x : Str} (h : chC K x = true) : ExcC K (He.ga K x) := by
  obtain ⟨h1, h⟩ := He.ba h
  obtain ⟨h2, h⟩ := He.ba h
  obtain ⟨h3, h⟩ := He.ba h
  obtain ⟨h4, h⟩ := He.ba h
  obtain ⟨h5, h⟩ := He.ba h
  obtain ⟨h6, h⟩ := He.ba h
  obtain ⟨h7, h8⟩ := He.ba h
  exact ⟨He.eqO_ok h1, He.eqO_ok h2, of_decide_eq_true h3, h4, He.eqO_ok h5, He.eqO_ok h6, of_decide_eq_true h7, of_decide_eq_true h8⟩
def chN (K : PySem.W.Frag) (x f : Str) : Bool := He.eqO (PySem.W.findIn K (.ref (He.ga K x)) f) (some none)
theorem chN_ok {K : PySem.W.Frag} {x f : Str} (h : chN K x f = true) : PySem.W.findIn K (.ref (He.ga K x)) f = some none := He.eqO_ok h
def chF (K : PySem.W.Frag) (x : Str) : Bool := He.eqO (PySem.W.findIn K (.ref (He.ga K x)) "__init__") (some (some (.ref (mA K x "__init__")))) && decide (PySem.W.typeIn K (.ref (mA K x "__init__")) = some (.type "function"))
theorem chF_ok {K : PySem.W.Frag} {x : Str} (h : chF K x = true) : PySem.W.findIn K (.ref (He.ga K x)) "__init__" = some (some (.ref (mA K x "__init__"))) ∧ PySem.W.typeIn K (.ref (mA K x "__init__")) = some (.type "function") := ⟨He.eqO_ok (He.ba h).1, of_decide_eq_true (He.ba h).2⟩
def chM (K : PySem.W.Frag) (x y : Str) (b : Bool) : Bool := decide (PySem.W.exmOne K (.ref (He.ga K x)) (.ref (He.ga K y)) = some b)
theorem chM_ok {K : PySem.W.Frag} {x y : Str} {b : Bool} (h : chM K x y b = true) : PySem.W.exmOne K (.ref (He.ga K x)) (.ref (He.ga K y)) = some b := of_decide_eq_true h
def chK (K : PySem.W.Frag) (x y : Str) (b : Bool) : Bool := decide (PySem.W.kitOne K (.ref (He.ga K x)) (.ref (He.ga K y)) = some b)
theorem chK_ok {K : PySem.W.Frag} {x y : Str} {b : Bool} (h : chK K x y b = true) : PySem.W.kitOne K (.ref (He.ga K x)) (.ref (He.ga K y)) = some b := of_decide_eq_true h
def chT (K : PySem.W.Frag) (x : Str) (y : String) (b : Bool) : Bool := decide (PySem.W.kitOne K (.ref (He.ga K x)) (.type y) = some b)
theorem chT_ok {K : PySem.W.Frag} {x : Str} {y : String} {b : Bool} (h : chT K x y b = true) : PySem.W.kitOne K (.ref (He.ga K x)) (.type y) = some b := of_decide_eq_true h
theorem exm_cons {K : PySem.W.Frag} {cls c : Value} {cs : List Value} {b d : Bool} (h : PySem.W.exmOne K cls c = some b) (h2 : PySem.W.exmAny K cls cs = some d) : PySem.W.exmAny K cls (c :: cs) = some (b || d) := by
  unfold PySem.W.exmAny
  rw [h, h2]
/-! ### more -/
theorem pasF {X : Cx} {σ : L2.St} : PassesAt (L2.CX X.prog X.w) X σ (WE W0 σ) := fun _ _ _ _ _ _ ⟨_, _, _, _, _, _, _, _, _, _, _, _, z⟩ => z.elim
def tTry (K : PySem.W.Frag) (W : WX) (tb : WX → TS) (l : List Hd) : TS := fun D σ H => tb (wTry K W D l) D σ H
theorem ps_tryT {X : Cx} {body : List Stmt} {h₀ : ExceptHandler} {hds : List ExceptHandler} {l : List Hd} {pos : Pos} {tb : WX → TS} {W : WX} (hs : X.stack = X.env :: X.outer) (hf : X.env.frame = some X.env.locals) (hN : X.N.Nodup) (tk : Takes X W)
    (hb : ∀ (W' : WX) (pn : List (Addr × Obj)) (xe : Value → Shared → Prop), Takes (X.tr pn xe) W' → PassesOwn (model X.prog X.w) X.A X.env xe → PSs (X.tr pn xe) body (tb W'))
    (hh : HdOk X (h₀ :: hds) l) : PS X (.Try body (h₀ :: hds) [] [] pos) (tTry X.K W tb l) := ps_tryG hs hf hN tk hb hh
theorem roomMark {k : Nat} {A : Around} {h : Option Value} (r : Room k A) : L2H.RoomH k (A.mark h) := ⟨r.dp, r.un⟩
def rSortDI : List V → Hp → VK → Prop := fun xs H Q => ∃ (a : Addr) (kvs : List (Key × V)) (ks : List Int), xs = [.ref a] ∧ Rd H a (.dK kvs) ∧ kvs.map (·.1) = ks.map Sum.inl ∧ ks.length < 64 ∧
  ∀ (ys : List Int) (p : Addr), ys.Perm ks → ys.Pairwise (· ≤ ·) → H p = none → Q (.ref p) (upd H p (.lst (ys.map V.int)))
theorem cr_sortedDI {X : Cx} (h : X.calm = true) : CallR X (.builtin "sorted") rSortDI := call_sortedDI h
def rDictD : List V → Hp → VK → Prop := fun xs H Q => ∃ (a : Addr) (kvs : List (Key × V)), xs = [.ref a] ∧ Rd H a (.dK kvs) ∧ ∀ p, H p = none → Q (.ref p) (upd H p (.dK kvs))
theorem cr_dictD {X : Cx} : CallR X (.type "dict") rDictD := call_dictD
end RC

namespace RC
open PySem PySem.Spec PyProof.Rows L2
section
variable {K : PySem.W.Frag} {σ : L2.St} {H : Hp} {Q : VK} {D : Ends} {Rs : List Res} {E : XK} {W : WX} {sp : Sp} {dvs : List V} {t : TA} {ta te tb tc : TE} {C a : Addr} {m f : Str} {v : V}
theorem g_callW (k : t σ H fun vs H1 => sp (vs ++ dvs) H1 Q (WE W σ)) : tCallW W sp dvs t σ H Q := k
def MethK (W : WX) (C : Addr) (m : Str) (sp : Sp) (dvs : List V) (t : TA) (σ : L2.St) (Q : VK) : VK := fun x H1 => ∃ a dx fs, x = .ref a ∧ H1 a = some (.ins C dx fs) ∧ fs.lookup m = none ∧ t σ H1 fun vs H2 => sp (x :: (vs ++ dvs)) H2 Q (WE W σ)
theorem g_meth (k : ta σ H (MethK W C m sp dvs t σ Q)) : tMethW W C m sp dvs ta t σ H Q := k
theorem v_meth {dx : Addr} {fs : List (Str × V)} (h : H a = some (.ins C dx fs)) (l : fs.lookup m = none) (k : t σ H fun vs H2 => sp (.ref a :: (vs ++ dvs)) H2 Q (WE W σ)) : MethK W C m sp dvs t σ Q (.ref a) H := ⟨a, dx, fs, rfl, h, l, k⟩
def MakeK (W : WX) (C : Addr) (sp : Sp) (dvs : List V) (σ : L2.St) (Q : VK) : List V → Hp → Prop := fun vs H1 => ∀ x dx, H1 x = none → H1 dx = none → dx ≠ x → sp (.ref x :: (vs ++ dvs)) (upd (upd H1 dx (.own x)) x (.ins C dx [])) (fun v H2 => v = .non ∧ Q (.ref x) H2) (WE W σ)
theorem g_make (k : t σ H (MakeK W C sp dvs σ Q)) : tMakeW W C sp dvs t σ H Q := k
theorem v_make {vs : List V} (S : M Rs H) (k : ∀ x dx H', M (pt x (.ins C dx []) :: pt dx (.own x) :: Rs) H' → sp (.ref x :: (vs ++ dvs)) H' (fun v H2 => v = .non ∧ Q (.ref x) H2) (WE W σ)) : MakeK W C sp dvs σ Q vs H := by
  intro x dx hx hdx hne
  exact k x dx _ ((S.new hdx).new (by rw [upd_ne (fun z => hne z.symm)]; exact hx))
def FldK (K : PySem.W.Frag) (f : Str) (Q : VK) : VK := fun x H1 => ∃ a C dx fs v, x = .ref a ∧ H1 a = some (.ins C dx fs) ∧ Cls K C ∧ NoAttr K C f ∧ fs.lookup f = some v ∧ Q v H1
theorem g_fld (k : ta σ H (FldK K f Q)) : tFld K ta f σ H Q := k
theorem v_fld {dx : Addr} {fs : List (Str × V)} (h : H a = some (.ins C dx fs)) (c : Cls K C) (n : NoAttr K C f) (l : fs.lookup f = some v) (k : Q v H) : FldK K f Q (.ref a) H := ⟨a, C, dx, fs, v, rfl, h, c, n, l, k⟩
def SFldK (K : PySem.W.Frag) (f : Str) (y : V) (σ : L2.St) (D : Ends) : VK := fun x H2 => ∃ a C dx fs, x = .ref a ∧ H2 a = some (.ins C dx fs) ∧ Cls K C ∧ NoAttr K C f ∧ fs.length < 1000 ∧ D.nx σ (upd H2 a (.ins C dx (putF f y fs)))
theorem g_sfld (k : te σ H fun y H1 => ta σ H1 (SFldK K f y σ D)) : sFld K ta te f D σ H := k
theorem v_sfld {dx : Addr} {fs : List (Str × V)} {y : V} (S : M Rs H) (i : Nat) (e : Rs[i]? = some (pt a (.ins C dx fs))) (c : Cls K C) (n : NoAttr K C f) (l : fs.length < 1000) (k : ∀ H', M (Rs.set i (pt a (.ins C dx (putF f y fs)))) H' → D.nx σ H') : SFldK K f y σ D (.ref a) H :=
  ⟨a, C, dx, fs, rfl, S.got i e, c, n, l, k _ (S.putAt i e)⟩
def RzK (W : WX) (C : Addr) (f : Str) (σ : L2.St) : VK := fun v H1 => ∀ d, H1 d = none → W (.ref C) (some d) σ (upd H1 d (.xd [(f, v)]))
theorem g_rz (k : te σ H (RzK W C f σ)) : tRz W C f te D σ H := k
theorem v_rz (S : M Rs H) (k : ∀ d H', M (pt d (.xd [(f, v)]) :: Rs) H' → W (.ref C) (some d) σ H') : RzK W C f σ v H := fun d hd => k d _ (S.new hd)
theorem v_dnew (S : M Rs H) (k : ∀ d H', M (pt d (.dK []) :: Rs) H' → Q (.ref d) H') : tDNewK σ H Q := fun d hd => k d _ (S.new hd)
def Pop1K (ty : TE) (σ : L2.St) (Q : VK) : VK := fun x H1 => ∃ a, x = .ref a ∧ IsD H1 a ∧ ty σ H1 fun y H2 => ∃ kvs k v, H2 a = some (.dK kvs) ∧ y = kV k ∧ valV kvs k = some v ∧ Q v (upd H2 a (.dK (dropK kvs k)))
theorem g_dpop (k : ta σ H (Pop1K tb σ Q)) : tDPop1 ta tb σ H Q := k
def PopV (a : Addr) (Q : VK) : VK := fun y H2 => ∃ kvs k v, H2 a = some (.dK kvs) ∧ y = kV k ∧ valV kvs k = some v ∧ Q v (upd H2 a (.dK (dropK kvs k)))
theorem v_dpop {kvs : List (Key × V)} (h : H a = some (.dK kvs)) (k : tb σ H (PopV a Q)) : Pop1K tb σ Q (.ref a) H := ⟨a, rfl, .inl ⟨kvs, .inl h⟩, k⟩
theorem v_popI {kvs : List (Key × V)} {n : Int} (S : M Rs H) (i : Nat) (e : Rs[i]? = some (pt a (.dK kvs))) (hv : valV kvs (Sum.inl n) = some v) (k : ∀ H', M (Rs.set i (pt a (.dK (dropK kvs (Sum.inl n))))) H' → Q v H') : PopV a Q (.int n) H :=
  ⟨kvs, Sum.inl n, v, S.got i e, rfl, hv, k _ (S.putAt i e)⟩
theorem v_popS {kvs : List (Key × V)} {n : Str} (S : M Rs H) (i : Nat) (e : Rs[i]? = some (pt a (.dK kvs))) (hv : valV kvs (Sum.inr n) = some v) (k : ∀ H', M (Rs.set i (pt a (.dK (dropK kvs (Sum.inr n))))) H' → Q v H') : PopV a Q (.str n) H :=
  ⟨kvs, Sum.inr n, v, S.got i e, rfl, hv, k _ (S.putAt i e)⟩
theorem v_ixK {kvs : List (Key × V)} {n : Int} (h : H a = some (.dK kvs)) (hv : valV kvs (Sum.inl n) = some v) (k : Q v H) : rIxK (.ref a) (.int n) H Q := ⟨a, v, rfl, by rw [← hv]; exact DGet.k (k := Sum.inl n) h, k⟩
theorem v_ixKS {kvs : List (Key × V)} {n : Str} (h : H a = some (.dK kvs)) (hv : valV kvs (Sum.inr n) = some v) (k : Q v H) : rIxK (.ref a) (.str n) H Q := ⟨a, v, rfl, by rw [← hv]; exact DGet.k (k := Sum.inr n) h, k⟩
theorem v_gIxK {kvs : List (Key × V)} {n : Int} (h : H a = some (.dK kvs)) (hv : valV kvs (Sum.inl n) = some v) (k : Q v H) : gIx K (.ref a) (.int n) H Q := .inr ⟨a, v, rfl, by rw [← hv]; exact DGet.k (k := Sum.inl n) h, k⟩
theorem v_gIxKS {kvs : List (Key × V)} {n : Str} (h : H a = some (.dK kvs)) (hv : valV kvs (Sum.inr n) = some v) (k : Q v H) : gIx K (.ref a) (.str n) H Q := .inr ⟨a, v, rfl, by rw [← hv]; exact DGet.k (k := Sum.inr n) h, k⟩
theorem v_put {kvs : List (Key × V)} {n : Int} {Q : Hp → Prop} (S : M Rs H) (i : Nat) (e : Rs[i]? = some (pt a (.dK kvs))) (hz : kvs.length < 100000) (k : ∀ H', M (Rs.set i (pt a (.dK (putK kvs (Sum.inl n) v)))) H' → Q H') : uSet (.ref a) (.int n) v H Q :=
  .inr ⟨a, _, rfl, DPut.k (k := Sum.inl n) (S.got i e) (Nat.lt_of_lt_of_le hz (by decide)), k _ (S.putAt i e)⟩
theorem v_putS {kvs : List (Key × V)} {n : Str} {Q : Hp → Prop} (S : M Rs H) (i : Nat) (e : Rs[i]? = some (pt a (.dK kvs))) (hz : kvs.length < 100000) (k : ∀ H', M (Rs.set i (pt a (.dK (putK kvs (Sum.inr n) v)))) H' → Q H') : uSet (.ref a) (.str n) v H Q :=
  .inr ⟨a, _, rfl, DPut.k (k := Sum.inr n) (S.got i e) (Nat.lt_of_lt_of_le hz (by decide)), k _ (S.putAt i e)⟩
theorem v_inK {kvs : List (Key × V)} {n : Int} (h : H a = some (.dK kvs)) (k : Q (.bl (valV kvs (Sum.inl n)).isSome) H) : uIn K (.int n) (.ref a) H Q := .inr (.inr (.inl ⟨a, _, rfl, DGet.k (k := Sum.inl n) h, k⟩))
theorem v_ninK {kvs : List (Key × V)} {n : Int} (h : H a = some (.dK kvs)) (k : Q (.bl (!(valV kvs (Sum.inl n)).isSome)) H) : uNotIn K (.int n) (.ref a) H Q := .inr (.inr (.inl ⟨a, _, rfl, DGet.k (k := Sum.inl n) h, k⟩))
theorem v_inKS {kvs : List (Key × V)} {n : Str} (h : H a = some (.dK kvs)) (k : Q (.bl (valV kvs (Sum.inr n)).isSome) H) : uIn K (.str n) (.ref a) H Q := .inr (.inr (.inl ⟨a, _, rfl, DGet.k (k := Sum.inr n) h, k⟩))
theorem v_ninKS {kvs : List (Key × V)} {n : Str} (h : H a = some (.dK kvs)) (k : Q (.bl (!(valV kvs (Sum.inr n)).isSome)) H) : uNotIn K (.str n) (.ref a) H Q := .inr (.inr (.inl ⟨a, _, rfl, DGet.k (k := Sum.inr n) h, k⟩))
theorem v_lenD {kvs : List (Key × V)} (h : H a = some (.dK kvs)) (k : Q (.int (kvs.length : Nat)) H) : uLen K [.ref a] H Q := .inr ⟨a, kvs, rfl, .inl h, k⟩
theorem v_isi {x : V} {ty : Value} {c : String} {b : Bool} (h : TyX K H x ty) (e : PySem.W.kitOne K ty (.type c) = some b) (k : Q (.bl b) H) : rIsi K [x, .ty c] H Q := ⟨x, .ty c, ty, _, b, rfl, .ty c, h, e, k⟩
theorem g_callE {cls : Value} {d : Option Addr} {sp : Addr → Value → Option Addr → Hp → VK → Prop} (k : te σ H fun x H1 => x = .ref a ∧ sp a cls d H1 Q) : tCallE a cls d sp te σ H Q := k
theorem g_xg {cls : Value} {d : Option Addr} {n : Str} (k : te σ H fun x H1 => x = .ref a ∧ ∃ D dd fs v, cls = .ref D ∧ ExcC K D ∧ PySem.W.findIn K (.ref D) n = some none ∧ d = some dd ∧ H1 dd = some (.xd fs) ∧ fs.lookup n = some v ∧ Q v H1) : tXg K a cls d n te σ H Q := k
theorem v_xg {D dd : Addr} {fs : List (Str × V)} {n : Str} (c : ExcC K D) (hn : PySem.W.findIn K (.ref D) n = some none) (h : H dd = some (.xd fs)) (l : fs.lookup n = some v) (k : Q v H) :
    V.ref a = .ref a ∧ ∃ D' dd' fs' v', Value.ref D = .ref D' ∧ ExcC K D' ∧ PySem.W.findIn K (.ref D') n = some none ∧ some dd = some dd' ∧ H dd' = some (.xd fs') ∧ fs'.lookup n = some v' ∧ Q v' H := ⟨rfl, D, dd, fs, v, rfl, c, hn, rfl, h, l, k⟩
theorem v_isX {D dd B : Addr} {fs : List (Str × V)} {b : Bool} (c : ExcC K D) (h : H dd = some (.xd fs)) (e : PySem.W.kitOne K (.ref D) (.ref B) = some b) (k : Q (.bl b) H) : uIsX K a (.ref D) (some dd) [.ref a, .ref B] H Q :=
  .inl ⟨.ref B, .ref B, b, rfl, ⟨D, rfl, c, .inr ⟨dd, fs, rfl, h⟩⟩, .own B, e, k⟩
theorem v_isXT {D dd : Addr} {fs : List (Str × V)} {B : String} {b : Bool} (c : ExcC K D) (h : H dd = some (.xd fs)) (e : PySem.W.kitOne K (.ref D) (.type B) = some b) (k : Q (.bl b) H) : uIsX K a (.ref D) (some dd) [.ref a, .ty B] H Q :=
  .inl ⟨.ty B, .type B, b, rfl, ⟨D, rfl, c, .inr ⟨dd, fs, rfl, h⟩⟩, .ty B, e, k⟩
theorem g_try {tb : WX → TS} {l : List Hd} (k : tb (wTry K W D l) D σ H) : tTry K W tb l D σ H := k
end
/-! ### sorted -/
theorem sorted_eq : ∀ {xs ys : List Int}, xs.Perm ys → xs.Pairwise (· ≤ ·) → ys.Pairwise (· ≤ ·) → xs = ys
  | [], ys, p, _, _ => (List.nil_perm.mp p).symm
  | x :: xs, [], p, _, _ => absurd p.length_eq (by simp)
  | x :: xs, y :: ys, p, h1, h2 => by
    obtain ⟨a1, a2⟩ := List.pairwise_cons.mp h1
    obtain ⟨b1, b2⟩ := List.pairwise_cons.mp h2
    have e : x = y := by
      have m1 : y ∈ x :: xs := p.mem_iff.mpr List.mem_cons_self
      have m2 : x ∈ y :: ys := p.mem_iff.mp List.mem_cons_self
      rcases List.mem_cons.mp m1 with z | z
      · exact z.symm
      · rcases List.mem_cons.mp m2 with w | w
        · exact w
        · have := a1 y z
          have := b1 x w
          omega
    subst e
    rw [sorted_eq (List.Perm.cons_inv p) a2 b2]
def srt (ks : List Int) : List Int := ks.mergeSort (fun a b => decide (a ≤ b))
theorem srt_perm (ks : List Int) : (srt ks).Perm ks := List.mergeSort_perm _ _
theorem srt_sorted (ks : List Int) : (srt ks).Pairwise (· ≤ ·) := by
  have h := List.pairwise_mergeSort (le := fun a b : Int => decide (a ≤ b)) (by intro a b c h1 h2; simp at *; omega) (by intro a b; simp; omega) ks
  exact h.imp fun z => by simpa using z
theorem srt_eq {xs ks : List Int} (p : xs.Perm ks) (h : xs.Pairwise (· ≤ ·)) : xs = srt ks := sorted_eq (p.trans (srt_perm ks).symm) h (srt_sorted ks)
theorem v_sortDI {H : Hp} {Q : VK} {Rs : List Res} {a : Addr} {kvs : List (Key × V)} {ks : List Int} (S : M Rs H) (h : H a = some (.dK kvs)) (e : kvs.map (·.1) = ks.map Sum.inl) (hz : ks.length < 64) (k : ∀ p H', M (pt p (.lst ((srt ks).map V.int)) :: Rs) H' → Q (.ref p) H') :
    rSortDI [.ref a] H Q := by
  refine ⟨a, kvs, ks, rfl, .inl h, e, hz, fun ys p hp hs hn => ?_⟩
  rw [srt_eq hp hs]
  exact k p _ (S.new hn)
theorem v_dictD {H : Hp} {Q : VK} {Rs : List Res} {a : Addr} {kvs : List (Key × V)} (S : M Rs H) (h : H a = some (.dK kvs)) (k : ∀ p H', M (pt p (.dK kvs) :: Rs) H' → Q (.ref p) H') : rDictD [.ref a] H Q := ⟨a, kvs, rfl, .inl h, fun p hn => k p _ (S.new hn)⟩
theorem Ent.tl {Rs : List Res} {R : Res} {φ : Hp → Prop} (h : Ent Rs φ) : Ent (R :: Rs) φ := fun H S => h H S.tl
theorem Ent.tl2 {Rs : List Res} {R R' : Res} {φ : Hp → Prop} (h : Ent Rs φ) : Ent (R :: R' :: Rs) φ := h.tl.tl
theorem Ent.imp {Rs : List Res} {φ ψ : Hp → Prop} (h : Ent Rs φ) (i : ∀ H, φ H → ψ H) : Ent Rs ψ := fun H S => i H (h H S)
theorem M.new' {Rs : List Res} {H : Hp} (S : M Rs H) : ∀ p o, H p = none → M (pt p o :: Rs) (upd H p o) := fun _ _ h => S.new h
end RC

namespace RC
open PySem PySem.Spec PyProof.Rows L2
/-- int(truth) -/
def rIntB : List V → Hp → VK → Prop := fun xs H Q => ∃ b : Bool, xs = [.bl b] ∧ Q (.int (if b then 1 else 0)) H
theorem cr_intB {X : Cx} : CallR X (.type "int") rIntB := by
  intro pins s σ H xs us Q I rs h
  obtain ⟨b, rfl, h⟩ := h
  cases rs with
  | cons r1 rs =>
    cases rs
    cases r1
    exact call_int_1 (meets_int_new_bool b) (show (Made.int _).post _ s from ⟨rfl, ⟨.int _, H, I.tok _, ⟨_, rfl⟩, h⟩⟩)
theorem v_intB {b : Bool} {H : Hp} {Q : VK} (k : Q (.int (if b then 1 else 0)) H) : rIntB [.bl b] H Q := ⟨b, rfl, k⟩
end RC

namespace RC
open PySem PySem.Spec PyProof.Rows L2
/-! ### data of any depth, dicts too (a dict that is data is frozen for ever) -/
def kD : Key → PyData
  | .inl i => .int i
  | .inr x => .str x
mutual
inductive Dq (K : PySem.W.Frag) (H : Hp) : V → PyData → Prop
  | non : Dq K H .non .none
  | bl (b : Bool) : Dq K H (.bl b) (.bool b)
  | int (i : Int) : Dq K H (.int i) (.int i)
  | str (x : Str) : Dq K H (.str x) (.str x)
  | lst {a : Addr} {vs : List V} {ds : List PyData} (h : SqL K H a vs) (q : DqAll K H vs ds) : Dq K H (.ref a) (.list ds)
  | tup {a : Addr} {vs : List V} {ds : List PyData} (h : SqT K H a vs) (q : DqAll K H vs ds) : Dq K H (.ref a) (.tuple ds)
  | dct {a : Addr} {od : Obj} {kvs : List (Key × V)} {ds : List (PyData × PyData)} (h : H a = some (.frz od (.dK kvs))) (q : DqKv K H kvs ds) : Dq K H (.ref a) (.dict ds)
inductive DqAll (K : PySem.W.Frag) (H : Hp) : List V → List PyData → Prop
  | nil : DqAll K H [] []
  | cons {v : V} {vs : List V} {d : PyData} {ds : List PyData} (h : Dq K H v d) (r : DqAll K H vs ds) : DqAll K H (v :: vs) (d :: ds)
inductive DqKv (K : PySem.W.Frag) (H : Hp) : List (Key × V) → List (PyData × PyData) → Prop
  | nil : DqKv K H [] []
  | cons {k : Key} {v : V} {vs : List (Key × V)} {d : PyData} {ds : List (PyData × PyData)} (h : Dq K H v d) (r : DqKv K H vs ds) : DqKv K H ((k, v) :: vs) ((kD k, d) :: ds)
end
mutual
theorem Dq_ext {K : PySem.W.Frag} {H H' : Hp} (e : Ext H H') : ∀ {v : V} {d : PyData}, Dq K H v d → Dq K H' v d
  | _, _, .non => .non
  | _, _, .bl b => .bl b
  | _, _, .int i => .int i
  | _, _, .str x => .str x
  | _, _, .lst h q => .lst (e.sqL h) (DqAll_ext e q)
  | _, _, .tup h q => .tup (e.sqT h) (DqAll_ext e q)
  | _, _, .dct h q => .dct (e _ _ h) (DqKv_ext e q)
theorem DqAll_ext {K : PySem.W.Frag} {H H' : Hp} (e : Ext H H') : ∀ {vs : List V} {ds : List PyData}, DqAll K H vs ds → DqAll K H' vs ds
  | _, _, .nil => .nil
  | _, _, .cons h r => .cons (Dq_ext e h) (DqAll_ext e r)
theorem DqKv_ext {K : PySem.W.Frag} {H H' : Hp} (e : Ext H H') : ∀ {vs : List (Key × V)} {ds : List (PyData × PyData)}, DqKv K H vs ds → DqKv K H' vs ds
  | _, _, .nil => .nil
  | _, _, .cons h r => .cons (Dq_ext e h) (DqKv_ext e r)
end
mutual
theorem Dq.dp {K : PySem.W.Frag} {H : Hp} : ∀ {v : V} {d : PyData}, Dq K H v d → d.hasDict = false → Dp K H v d
  | _, _, .non, _ => .non
  | _, _, .bl b, _ => .bl b
  | _, _, .int i, _ => .int i
  | _, _, .str x, _ => .str x
  | _, _, .lst h q, n => .lst h (DqAll.dp q (by simpa only [PyData.hasDict] using n))
  | _, _, .tup h q, n => .tup h (DqAll.dp q (by simpa only [PyData.hasDict] using n))
  | _, _, .dct h q, n => by simp [PyData.hasDict] at n
theorem DqAll.dp {K : PySem.W.Frag} {H : Hp} : ∀ {vs : List V} {ds : List PyData}, DqAll K H vs ds → PyData.hasDictAll ds = false → DpAll K H vs ds
  | _, _, .nil, _ => .nil
  | _, _, .cons h r, n => by
    simp only [PyData.hasDictAll, Bool.or_eq_false_iff] at n
    exact .cons (Dq.dp h n.1) (DqAll.dp r n.2)
end
mutual
theorem Dp.dq {K : PySem.W.Frag} {H : Hp} : ∀ {v : V} {d : PyData}, Dp K H v d → Dq K H v d
  | _, _, .non => .non
  | _, _, .bl b => .bl b
  | _, _, .int i => .int i
  | _, _, .str x => .str x
  | _, _, .lst h q => .lst h (DpAll.dq q)
  | _, _, .tup h q => .tup h (DpAll.dq q)
theorem DpAll.dq {K : PySem.W.Frag} {H : Hp} : ∀ {vs : List V} {ds : List PyData}, DpAll K H vs ds → DqAll K H vs ds
  | _, _, .nil => .nil
  | _, _, .cons h r => .cons (Dp.dq h) (DpAll.dq r)
end
/-! data as it is now: dicts of one's own, too -/
mutual
inductive Dn (K : PySem.W.Frag) (H : Hp) : V → PyData → Prop
  | non : Dn K H .non .none
  | bl (b : Bool) : Dn K H (.bl b) (.bool b)
  | int (i : Int) : Dn K H (.int i) (.int i)
  | str (x : Str) : Dn K H (.str x) (.str x)
  | lst {a : Addr} {vs : List V} {ds : List PyData} (h : SqL K H a vs) (q : DnAll K H vs ds) : Dn K H (.ref a) (.list ds)
  | tup {a : Addr} {vs : List V} {ds : List PyData} (h : SqT K H a vs) (q : DnAll K H vs ds) : Dn K H (.ref a) (.tuple ds)
  | dct {a : Addr} {kvs : List (Key × V)} {ds : List (PyData × PyData)} (h : Rd H a (.dK kvs)) (q : DnKv K H kvs ds) : Dn K H (.ref a) (.dict ds)
inductive DnAll (K : PySem.W.Frag) (H : Hp) : List V → List PyData → Prop
  | nil : DnAll K H [] []
  | cons {v : V} {vs : List V} {d : PyData} {ds : List PyData} (h : Dn K H v d) (r : DnAll K H vs ds) : DnAll K H (v :: vs) (d :: ds)
inductive DnKv (K : PySem.W.Frag) (H : Hp) : List (Key × V) → List (PyData × PyData) → Prop
  | nil : DnKv K H [] []
  | cons {k : Key} {v : V} {vs : List (Key × V)} {d : PyData} {ds : List (PyData × PyData)} (h : Dn K H v d) (r : DnKv K H vs ds) : DnKv K H ((k, v) :: vs) ((kD k, d) :: ds)
end
mutual
theorem Dq.dn {K : PySem.W.Frag} {H : Hp} : ∀ {v : V} {d : PyData}, Dq K H v d → Dn K H v d
  | _, _, .non => .non
  | _, _, .bl b => .bl b
  | _, _, .int i => .int i
  | _, _, .str x => .str x
  | _, _, .lst h q => .lst h (DqAll.dn q)
  | _, _, .tup h q => .tup h (DqAll.dn q)
  | _, _, .dct h q => .dct (.inr ⟨_, h⟩) (DqKv.dn q)
theorem DqAll.dn {K : PySem.W.Frag} {H : Hp} : ∀ {vs : List V} {ds : List PyData}, DqAll K H vs ds → DnAll K H vs ds
  | _, _, .nil => .nil
  | _, _, .cons h r => .cons (Dq.dn h) (DqAll.dn r)
theorem DqKv.dn {K : PySem.W.Frag} {H : Hp} : ∀ {vs : List (Key × V)} {ds : List (PyData × PyData)}, DqKv K H vs ds → DnKv K H vs ds
  | _, _, .nil => .nil
  | _, _, .cons h r => .cons (Dq.dn h) (DqKv.dn r)
end
mutual
theorem Dn.dp {K : PySem.W.Frag} {H : Hp} : ∀ {v : V} {d : PyData}, Dn K H v d → d.hasDict = false → Dp K H v d
  | _, _, .non, _ => .non
  | _, _, .bl b, _ => .bl b
  | _, _, .int i, _ => .int i
  | _, _, .str x, _ => .str x
  | _, _, .lst h q, n => .lst h (DnAll.dp q (by simpa only [PyData.hasDict] using n))
  | _, _, .tup h q, n => .tup h (DnAll.dp q (by simpa only [PyData.hasDict] using n))
  | _, _, .dct h q, n => by simp [PyData.hasDict] at n
theorem DnAll.dp {K : PySem.W.Frag} {H : Hp} : ∀ {vs : List V} {ds : List PyData}, DnAll K H vs ds → PyData.hasDictAll ds = false → DpAll K H vs ds
  | _, _, .nil, _ => .nil
  | _, _, .cons h r, n => by
    simp only [PyData.hasDictAll, Bool.or_eq_false_iff] at n
    exact .cons (Dn.dp h n.1) (DnAll.dp r n.2)
end
/-! ### encoders -/
abbrev eI : Int → PyData := PyData.int
abbrev eB : Bool → PyData := PyData.bool
abbrev eS : Str → PyData := PyData.str
abbrev eN : Unit → PyData := fun _ => PyData.none
abbrev eA : PyData → PyData := id
def eL {α : Type} (e : α → PyData) (xs : List α) : PyData := .list (xs.map e)
/-- a tuple of things of one kind -/
def eV {α : Type} (e : α → PyData) (xs : List α) : PyData := .tuple (xs.map e)
def eP {α β : Type} (e : α → PyData) (f : β → PyData) (x : α × β) : PyData := .tuple [e x.1, f x.2]
def eT3 {α β γ : Type} (e : α → PyData) (f : β → PyData) (g : γ → PyData) (x : α × β × γ) : PyData := .tuple [e x.1, f x.2.1, g x.2.2]
def eT4 {α β γ δ : Type} (e : α → PyData) (f : β → PyData) (g : γ → PyData) (h : δ → PyData) (x : α × β × γ × δ) : PyData := .tuple [e x.1, f x.2.1, g x.2.2.1, h x.2.2.2]
def eO {α : Type} (e : α → PyData) : Option α → PyData
  | none => .none
  | some x => e x
abbrev iI : Int → Key := Sum.inl
abbrev iS : Str → Key := Sum.inr
def eD {κ α : Type} (ik : κ → Key) (e : α → PyData) (m : List (κ × α)) : PyData := .dict (m.map fun p => (kD (ik p.1), e p.2))
/-! ### resources -/
def da (K : PySem.W.Frag) (v : V) (d : PyData) : Res := ⟨fun F l => l = [] ∧ Dq K F v d, fun _ _ _ e h => ⟨h.1, Dq_ext e h.2⟩⟩
def daA (K : PySem.W.Frag) (vs : List V) (ds : List PyData) : Res := ⟨fun F l => l = [] ∧ DqAll K F vs ds, fun _ _ _ e h => ⟨h.1, DqAll_ext e h.2⟩⟩
def daK (K : PySem.W.Frag) (vs : List (Key × V)) (ds : List (PyData × PyData)) : Res := ⟨fun F l => l = [] ∧ DqKv K F vs ds, fun _ _ _ e h => ⟨h.1, DqKv_ext e h.2⟩⟩
/-- what the resources bring, for ever -/
def EnF (Rs : List Res) (φ : Hp → Prop) : Prop := ∀ F L, Sat F Rs L → φ F
theorem Sat.get {F : Hp} : ∀ {Rs : List Res} {L : List Cell} (i : Nat) {R : Res}, Sat F Rs L → Rs[i]? = some R → ∃ l, R.on F l
  | [], L, i, R, _, e => by simp at e
  | S :: Rs, L, 0, R, ⟨l1, l2, _, a, _⟩, e => by
    have e : S = R := Option.some.inj e
    subst e
    exact ⟨l1, a⟩
  | S :: Rs, L, i + 1, R, ⟨l1, l2, _, _, b⟩, e => Sat.get i b (by simpa using e)
section
variable {K : PySem.W.Frag} {Rs R0 : List Res} {H : Hp} {v : V} {d : PyData} {vs : List V} {ds : List PyData} {φ ψ : Hp → Prop}
theorem M.gotA (S : M Rs H) (i : Nat) (e : Rs[i]? = some (da K v d)) : Dq K H v d := by
  obtain ⟨F, L, s, m⟩ := S
  obtain ⟨l, h⟩ := s.get i e
  exact Dq_ext m.ex h.2
theorem EnF.at (i : Nat) (e : Rs[i]? = some (da K v d)) : EnF Rs (fun F => Dq K F v d) := fun F L s => by
  obtain ⟨l, h⟩ := s.get i e
  exact h.2
theorem EnF.atF {p : Addr} {o : HO} (i : Nat) (e : Rs[i]? = some (fz p o)) : EnF Rs (fun F => F p = some o) := fun F L s => by
  obtain ⟨l, h⟩ := s.get i e
  exact h.2
theorem EnF.all (h : ∀ F, φ F) : EnF Rs φ := fun F _ _ => h F
theorem EnF.imp (h : EnF Rs φ) (k : ∀ F, φ F → ψ F) : EnF Rs ψ := fun F L s => k F (h F L s)
theorem EnF.tl {R : Res} (h : EnF Rs φ) : EnF (R :: Rs) φ := fun F L ⟨_, l2, _, _, b⟩ => h F l2 b
theorem EnF.nilA : EnF Rs (fun F => DqAll K F [] []) := fun _ _ _ => .nil
theorem EnF.consA (h : EnF Rs (fun F => Dq K F v d)) (r : EnF Rs (fun F => DqAll K F vs ds)) : EnF Rs (fun F => DqAll K F (v :: vs) (d :: ds)) := fun F L s => .cons (h F L s) (r F L s)
theorem M.of (S : M Rs H) (h : EnF Rs φ) (mono : ∀ F, Ext F H → φ F → ψ H) : ψ H := by
  obtain ⟨F, L, s, m⟩ := S
  exact mono F m.ex (h F L s)
theorem M.dq (S : M Rs H) (h : EnF Rs (fun F => Dq K F v d)) : Dq K H v d := by
  obtain ⟨F, L, s, m⟩ := S
  exact Dq_ext m.ex (h F L s)
/-- one more fact that stands for ever -/
theorem M.addA (S : M Rs H) (h : EnF Rs (fun F => Dq K F v d)) : M (da K v d :: Rs) H := by
  obtain ⟨F, L, s, m⟩ := S
  exact ⟨F, L, ⟨[], L, rfl, ⟨rfl, h F L s⟩, s⟩, m⟩
/-- a new list, a new tuple, is data from now on -/
theorem M.fixQ {p : Addr} (S : M (pt p (.lst vs) :: Rs) H) (h : EnF Rs (fun F => DqAll K F vs ds)) : M (da K (.ref p) (.list ds) :: Rs) H := by
  obtain ⟨F, L, ⟨l1, l2, rfl, ⟨rfl, fp⟩, s⟩, m⟩ := S.fix
  obtain ⟨F0, L0, ⟨l3, l4, rfl, e0, s0⟩, m0⟩ := S
  have s1 := m0
  refine ⟨upd F0 p (.lst vs), l4, ⟨[], l4, rfl, ⟨rfl, .lst (.inl (.inl upd_same)) ?_⟩, ?_⟩, ?_⟩
  · have hn : F0 p = none := by
      subst e0
      exact (m0.own (p, .lst vs) (by simp)).2
    exact DqAll_ext (Ext.new hn) (h F0 l4 s0)
  · have hn : F0 p = none := by
      subst e0
      exact (m0.own (p, .lst vs) (by simp)).2
    exact s0.mono (Ext.new hn)
  · subst e0
    have hp := m0.own (p, .lst vs) (by simp)
    have nd := m0.nd
    rw [List.map_append] at nd
    have nd2 : ((p :: l4.map (·.1)) : List Addr).Nodup := nd
    have np := (List.nodup_cons.mp nd2).1
    refine ⟨fun a u e => ?_, fun c hc => ?_, (List.nodup_cons.mp nd2).2⟩
    · by_cases z : a = p
      · subst z
        rw [upd_same] at e
        cases e
        exact hp.1
      · rw [upd_ne z] at e
        exact m0.ex _ _ e
    · have q := m0.own c (List.mem_append_right _ hc)
      refine ⟨q.1, ?_⟩
      have : c.1 ≠ p := fun z => np (List.mem_map.mpr ⟨c, hc, z⟩)
      rw [upd_ne this]
      exact q.2
end
end RC

namespace RC
open PySem PySem.Spec PyProof.Rows L2
/-! ### plain code, without a heap: wishes of what is told -/
def forD {α β : Type} (f : α → β → (β → Prop) → Prop) : List α → β → (β → Prop) → Prop
  | [], s, k => k s
  | x :: xs, s, k => f x s fun s' => forD f xs s' k
/-- a comprehension: none where it is left out -/
def lcD {α β : Type} (f : α → (Option β → Prop) → Prop) : List α → List β → (List β → Prop) → Prop
  | [], acc, k => k acc
  | x :: xs, acc, k => f x fun y => lcD f xs (acc ++ y.toList) k
def jn {β : Type} (m : (β → Prop) → Prop) (k : β → Prop) : Prop := m k
def whN {β : Type} (c : β → (Bool → Prop) → Prop) (f : β → (β → Prop) → Prop) : Nat → β → (β → Prop) → Prop
  | 0, _, _ => False
  | n + 1, s, k => c s fun b => if b = true then f s fun s' => whN c f n s' k else k s
def whD {β : Type} (c : β → (Bool → Prop) → Prop) (f : β → (β → Prop) → Prop) (s : β) (k : β → Prop) : Prop := ∃ n, whN c f n s k
abbrev sno {α : Type} (xs : List α) (x : α) : List α := xs ++ [x]
abbrev cat {α : Type} (xs ys : List α) : List α := xs ++ ys
/-- a draw -/
def takeD (n : Int) (k : Int → Prop) : Prop := (0 < n ∧ n < 2 ^ 62) ∧ ∀ v, 0 ≤ v → v < n → k v
def rng (n : Int) : List Int := (List.range n.toNat).map fun i => (0 : Int) + (i : Nat)
def cutL {α : Type} (xs : List α) (lo hi : Option Int) : List α := (xs.drop (HT.sIx xs.length 0 lo)).take (HT.sIx xs.length xs.length hi - HT.sIx xs.length 0 lo)
section
variable {K : PySem.W.Frag} {σ : L2.St} {H : Hp} {Q : VK} {D : Ends} {Rs : List Res} {E : XK} {t u : TS} {α β : Type}
theorem v_iff {b : Bool} {A B X Y : Prop} (hf : if b = true then X else Y) (h1 : b = true → X → A) (h2 : b = false → Y → B) : if b = true then A else B := by
  cases b with
  | true => exact h1 rfl (by simpa using hf)
  | false => exact h2 rfl (by simpa using hf)
theorem v_andB {b1 b2 : Bool} {P : Bool → Prop} {X : Prop} (hx : P b2 → X) (hq : P (b1 && b2)) : if b1 = true then X else P false := by
  cases b1 with
  | true => exact hx hq
  | false => exact hq
theorem v_orB {b1 b2 : Bool} {P : Bool → Prop} {X : Prop} (hx : P b2 → X) (hq : P (b1 || b2)) : if b1 = true then P true else X := by
  cases b1 with
  | true => exact hq
  | false => exact hx hq
theorem jn_cut {m : (β → Prop) → Prop} {KK : β → Prop} (hf : jn m KK) (Inv : β → L2.St → Hp → Prop)
    (h1 : ∀ (kk : β → Prop) (N : L2.St → Hp → Prop), (∀ s σ H, kk s → Inv s σ H → N σ H) → m kk → t ⟨N, D.rt, D.bk, D.ct⟩ σ H)
    (h2 : ∀ s σ H, KK s → Inv s σ H → u D σ H) : tSeq t u D σ H := h1 KK (u D) h2 hf
theorem tst_cut {φ : (Bool → Hp → Prop) → Prop} {P : Bool → Hp → Prop} {m : (Bool → Prop) → Prop} {KK : Bool → Prop} (hf : jn m KK) (Inv : Hp → Prop)
    (h1 : ∀ (kk : Bool → Prop) (P' : Bool → Hp → Prop), (∀ c H, kk c → Inv H → P' c H) → m kk → φ P') (h2 : ∀ c H, KK c → Inv H → P c H) : φ P := h1 KK P h2 hf
theorem val_cut {φ : VK → Prop} {P : VK} {m : (β → Prop) → Prop} {KK : β → Prop} (hf : jn m KK) (Inv : β → V → Hp → Prop)
    (h1 : ∀ (kk : β → Prop) (P' : VK), (∀ x v H, kk x → Inv x v H → P' v H) → m kk → φ P') (h2 : ∀ x v H, KK x → Inv x v H → P v H) : φ P := h1 KK P h2 hf
/-! lists that are walked -/
theorem M.openQ {v : V} {ds : List PyData} (S : M (da K v (.list ds) :: Rs) H) : ∃ a vs, v = .ref a ∧ M (rdL K a vs :: daA K vs ds :: Rs) H := by
  obtain ⟨F, L, ⟨l1, l2, rfl, ⟨rfl, e⟩, b⟩, m⟩ := S
  cases e with
  | lst h1 h2 => exact ⟨_, _, rfl, F, l2, ⟨[], l2, rfl, ⟨rfl, h1⟩, [], l2, rfl, ⟨rfl, h2⟩, b⟩, m⟩
theorem DqAll.len : ∀ {vs : List V} {ds : List PyData}, DqAll K H vs ds → vs.length = ds.length
  | _, _, .nil => rfl
  | _, _, .cons _ r => by rw [List.length_cons, List.length_cons, DqAll.len r]
theorem DqAll.at : ∀ {vs : List V} {ds : List PyData}, DqAll K H vs ds → ∀ {i : Nat} {v : V} {d : PyData}, vs[i]? = some v → ds[i]? = some d → Dq K H v d
  | _, _, .nil, i, v, d, h, _ => by simp at h
  | _, _, .cons a r, 0, v, d, h, g => by
    cases (Option.some.inj (show some _ = some v from h))
    cases (Option.some.inj (show some _ = some d from g))
    exact a
  | _, _, .cons a r, i + 1, v, d, h, g => DqAll.at r (by simpa using h) (by simpa using g)
theorem M.gotAA {vs : List V} {ds : List PyData} (S : M Rs H) (i : Nat) (e : Rs[i]? = some (daA K vs ds)) : DqAll K H vs ds := by
  obtain ⟨F, L, s, m⟩ := S
  obtain ⟨l, h⟩ := s.get i e
  exact DqAll_ext m.ex h.2
/-- one of them -/
theorem M.elA {e : α → PyData} {vs : List V} {xs : List α} {i : Nat} {v : V} {x : α} (S : M Rs H) (j : Nat) (hj : Rs[j]? = some (daA K vs (xs.map e))) (hv : vs[i]? = some v) (hx : xs[i]? = some x) : M (da K v (e x) :: Rs) H :=
  S.addA fun F L s => by
    obtain ⟨l, h⟩ := s.get j hj
    exact h.2.at hv (by rw [List.getElem?_map, hx]; rfl)
theorem for_lst {F : α → β → (β → Prop) → Prop} {e : α → PyData} {xs : List α} {vs : List V} {s0 : β} {KK : β → Prop} {a : Addr} {g : TG} {tb : TS} (hf : forD F xs s0 KK) (Inv : β → L2.St → Hp → Prop) (h0 : Inv s0 σ H)
    (hrd : ∀ s σ H, Inv s σ H → SqL K H a vs ∧ DqAll K H vs (xs.map e))
    (hs : ∀ (i : Nat) v x s σ H (kk : β → Prop), Inv s σ H → vs[i]? = some v → xs[i]? = some x → F x s kk → g v σ H fun σ2 H2 => tb ⟨fun σ H => ∃ s', kk s' ∧ Inv s' σ H, D.rt, D.nx, fun σ H => ∃ s', kk s' ∧ Inv s' σ H⟩ σ2 H2)
    (hd : ∀ s σ H, KK s → Inv s σ H → D.nx σ H) : ForW (Itl K a) g tb D σ H := by
  have hl : vs.length = xs.length := by
    have := (hrd s0 σ H h0).2.len
    rwa [List.length_map] at this
  refine for_W walk_list (fun i σ H => ∃ s, forD F (xs.drop i) s KK ∧ Inv s σ H) ⟨s0, by simpa using hf, h0⟩ (fun i σ H _ ⟨s, _, h⟩ => (hrd s σ H h).1) ?_ ?_
  · rintro i v σ H H' hi ⟨s, hf, h⟩ ⟨rfl, hv⟩
    have hi2 : i < xs.length := by omega
    rw [List.drop_eq_getElem_cons hi2] at hf
    exact hs i v _ s σ H' _ h hv (List.getElem?_eq_getElem hi2) hf
  · rintro σ H ⟨s, hf, h⟩
    rw [hl, List.drop_length] at hf
    exact hd s σ H hf h
theorem rng_len (n : Int) : (rng n).length = n.toNat := by simp [rng]
theorem rng_get {n : Int} {i : Nat} (h : i < n.toNat) : (rng n)[i]? = some ((0 : Int) + (i : Nat)) := by
  unfold rng
  rw [List.getElem?_map, List.getElem?_range h]
  rfl
theorem for_rng {F : Int → β → (β → Prop) → Prop} {n : Int} {s0 : β} {KK : β → Prop} {g : TG} {tb : TS} (hf : forD F (rng n) s0 KK) (Inv : β → L2.St → Hp → Prop) (h0 : Inv s0 σ H)
    (hs : ∀ x s σ H (kk : β → Prop), Inv s σ H → F x s kk → g (.int x) σ H fun σ2 H2 => tb ⟨fun σ H => ∃ s', kk s' ∧ Inv s' σ H, D.rt, D.nx, fun σ H => ∃ s', kk s' ∧ Inv s' σ H⟩ σ2 H2)
    (hd : ∀ s σ H, KK s → Inv s σ H → D.nx σ H) : ForW (Itr 0 n.toNat) g tb D σ H := by
  refine for_W walk_range (fun i σ H => ∃ s, forD F ((rng n).drop i) s KK ∧ Inv s σ H) ⟨s0, by simpa using hf, h0⟩ (fun _ _ _ _ _ => trivial) ?_ ?_
  · rintro i v σ H H' hi ⟨s, hf, h⟩ ⟨rfl, rfl⟩
    have hi2 : i < (rng n).length := by rw [rng_len]; exact hi
    rw [List.drop_eq_getElem_cons hi2] at hf
    have e : (rng n)[i] = (0 : Int) + (i : Nat) := Option.some.inj ((List.getElem?_eq_getElem hi2).symm.trans (rng_get hi))
    rw [e] at hf
    exact hs _ s σ H' _ h hf
  · rintro σ H ⟨s, hf, h⟩
    rw [← rng_len, List.drop_length] at hf
    exact hd s σ H hf h
/-- the list of a comprehension, so far -/
def acR (K : PySem.W.Frag) (E : Addr) (ds : List PyData) : Res := exi fun vs => sp2 (pt E (.lst vs)) (daA K vs ds)
theorem acR_nil {E : Addr} (S : M (pt E (.lst []) :: Rs) H) : M (acR K E [] :: Rs) H := by
  obtain ⟨F, L, ⟨l1, l2, rfl, a, b⟩, m⟩ := S
  exact ⟨F, _, ⟨l1, l2, rfl, ⟨[], l1, [], by simp, a, rfl, .nil⟩, b⟩, m⟩
theorem acR_fix {E : Addr} {ds : List PyData} (S : M (acR K E ds :: Rs) H) : M (da K (.ref E) (.list ds) :: Rs) H := by
  obtain ⟨vs, S⟩ := S.ex
  obtain ⟨F, L, ⟨l1, l2, rfl, ⟨rfl, fp⟩, l3, l4, rfl, ⟨rfl, q⟩, b⟩, m⟩ := S.sp.fix
  exact ⟨F, l4, ⟨[], l4, rfl, ⟨rfl, .lst (.inl (.inl fp)) q⟩, b⟩, m⟩
theorem DqAll.snoc {v : V} {d : PyData} (h : Dq K H v d) : ∀ {vs : List V} {ds : List PyData}, DqAll K H vs ds → DqAll K H (vs ++ [v]) (ds ++ [d])
  | _, _, .nil => .cons h .nil
  | _, _, .cons a r => .cons a (DqAll.snoc h r)
/-- one more -/
theorem acR_put {N : Hp → Prop} {E : Addr} {ds : List PyData} {y : V} {d : PyData} (S : M Rs H) (j : Nat) (hj : Rs[j]? = some (acR K E ds)) (h : EnF Rs (fun F => Dq K F y d)) (hz : ds.length < 100000) (k : ∀ H', M (acR K E (ds ++ [d]) :: Rs.eraseIdx j) H' → N H') : LcK N E y H := by
  have S0 : M (da K y d :: Rs) H := S.addA h
  have S1 : M (acR K E ds :: da K y d :: Rs.eraseIdx j) H := (S0.at (j + 1) (by simpa using hj))
  obtain ⟨vs, S2⟩ := S1.ex
  have S3 := S2.sp
  have hl : vs.length = ds.length := (S3.gotAA 1 rfl).len
  refine ⟨vs, S3.got 0 rfl, Nat.lt_of_lt_of_le (by rw [hl]; exact hz) (by decide), k _ ?_⟩
  have S4 := S3.putAt (o' := .lst (vs ++ [y])) 0 rfl
  obtain ⟨F, L, ⟨l1, l2, rfl, a, l3, l4, rfl, ⟨rfl, q⟩, l5, l6, rfl, ⟨rfl, q2⟩, b⟩, m⟩ := S4
  exact ⟨F, _, ⟨l1, l6, by simp, ⟨vs ++ [y], l1, [], by simp, a, rfl, DqAll.snoc q2 q⟩, b⟩, m⟩
theorem lc_lst {te : TE} {tt : TT} {g : TG} {ws : List Nat} {F : α → (Option β → Prop) → Prop} {e : α → PyData} {e' : β → PyData} {xs : List α} {vs : List V} {KK : List β → Prop} {a : Addr} (hf : xs.length ≤ 100000 ∧ lcD F xs [] KK) (S : M Rs H)
    (hrd : ∀ H, M Rs H → SqL K H a vs ∧ DqAll K H vs (xs.map e))
    (hs : ∀ (i : Nat) v x (acc : List β) E H (kk : Option β → Prop) (N : Hp → Prop), (acc.map e').length < 100000 → M (acR K E (acc.map e') :: Rs) H → vs[i]? = some v → xs[i]? = some x → F x kk →
      (∀ y H, kk (some y) → M (acR K E (acc.map e' ++ [e' y]) :: Rs) H → N H) → (∀ H, kk none → M (acR K E (acc.map e') :: Rs) H → N H) → g v (wipe σ ws) H fun σ2 H2 => wipe σ2 ws = wipe σ ws ∧ tt σ2 H2 fun b H3 =>
      if b = true then te σ2 H3 (LcK N E) else N H3)
    (hd : ∀ E (acc : List β) H, KK acc → M (acR K E (acc.map e') :: Rs) H → Q (.ref E) H) : LcW (Itl K a) g tt te ws σ Q H := by
  obtain ⟨hz, hf⟩ := hf
  have hl : vs.length = xs.length := by
    have := (hrd H S).2.len
    rwa [List.length_map] at this
  refine lc_X walk_list (fun E i H => ∃ acc, lcD F (xs.drop i) acc KK ∧ acc.length ≤ i ∧ M (acR K E (acc.map e') :: Rs) H) (fun E hE => ⟨[], by simpa using hf, Nat.le_refl _, acR_nil (S.new hE)⟩) (fun E i H _ ⟨acc, _, _, S⟩ => (hrd H S.tl).1) ?_ ?_
  · rintro E i v H H' hi ⟨acc, hf, ha, S⟩ ⟨rfl, hv⟩
    have hi2 : i < xs.length := by omega
    rw [List.drop_eq_getElem_cons hi2] at hf
    refine hs i v _ acc E H' _ _ (by rw [List.length_map]; omega) S hv (List.getElem?_eq_getElem hi2) hf (fun y H hk S => ⟨acc ++ [y], hk, by rw [List.length_append]; simpa using ha, by rw [List.map_append]; exact S⟩) (fun H hk S => ⟨acc, ?_, by omega, S⟩)
    simpa using hk
  · rintro E H ⟨acc, hf, ha, S⟩
    rw [hl, List.drop_length] at hf
    exact hd E acc H hf S
theorem lc_rng {te : TE} {tt : TT} {g : TG} {ws : List Nat} {F : Int → (Option β → Prop) → Prop} {e' : β → PyData} {n : Int} {KK : List β → Prop} (hf : (rng n).length ≤ 100000 ∧ lcD F (rng n) [] KK) (S : M Rs H)
    (hs : ∀ x (acc : List β) E H (kk : Option β → Prop) (N : Hp → Prop), (acc.map e').length < 100000 → M (acR K E (acc.map e') :: Rs) H → F x kk →
      (∀ y H, kk (some y) → M (acR K E (acc.map e' ++ [e' y]) :: Rs) H → N H) → (∀ H, kk none → M (acR K E (acc.map e') :: Rs) H → N H) → g (.int x) (wipe σ ws) H fun σ2 H2 => wipe σ2 ws = wipe σ ws ∧ tt σ2 H2 fun b H3 =>
      if b = true then te σ2 H3 (LcK N E) else N H3)
    (hd : ∀ E (acc : List β) H, KK acc → M (acR K E (acc.map e') :: Rs) H → Q (.ref E) H) : LcW (Itr 0 n.toNat) g tt te ws σ Q H := by
  obtain ⟨hz, hf⟩ := hf
  rw [rng_len] at hz
  refine lc_X walk_range (fun E i H => ∃ acc, lcD F ((rng n).drop i) acc KK ∧ acc.length ≤ i ∧ M (acR K E (acc.map e') :: Rs) H) (fun E hE => ⟨[], by simpa using hf, Nat.le_refl _, acR_nil (S.new hE)⟩) (fun E i H _ _ => trivial) ?_ ?_
  · rintro E i v H H' hi ⟨acc, hf, ha, S⟩ ⟨rfl, rfl⟩
    have hi2 : i < (rng n).length := by rw [rng_len]; exact hi
    rw [List.drop_eq_getElem_cons hi2] at hf
    have e : (rng n)[i] = (0 : Int) + (i : Nat) := Option.some.inj ((List.getElem?_eq_getElem hi2).symm.trans (rng_get hi))
    rw [e] at hf
    refine hs _ acc E H' _ _ (by rw [List.length_map]; omega) S hf (fun y H hk S => ⟨acc ++ [y], hk, by rw [List.length_append]; simpa using ha, by rw [List.map_append]; exact S⟩) (fun H hk S => ⟨acc, ?_, by omega, S⟩)
    simpa using hk
  · rintro E H ⟨acc, hf, ha, S⟩
    rw [← rng_len, List.drop_length] at hf
    exact hd E acc H hf S
/-! ### displays, items, slices, sums, copies -/
theorem M.fixG {p : Addr} {o : HO} {R : Res} {φ : Hp → Prop} (S : M (pt p o :: Rs) H) (h : EnF Rs φ) (k : ∀ F, φ F → F p = some o → R.on F []) : M (R :: Rs) H := by
  obtain ⟨F, L, ⟨l1, l2, rfl, ⟨rfl, fp⟩, s⟩, m⟩ := S.fix
  exact ⟨F, l2, ⟨[], l2, rfl, k F (h F l2 s) fp, s⟩, m⟩
theorem v_lstq {vs : List V} {ds : List PyData} (S : M Rs H) (h : EnF Rs (fun F => DqAll K F vs ds)) (hn : vs.length ≤ 100000) (k : ∀ p H', M (da K (.ref p) (.list ds) :: Rs) H' → Q (.ref p) H') : LstK Q vs H :=
  v_lst S hn fun p H' S' => k p H' (S'.fixG h fun F q fp => ⟨rfl, .lst (.inl (.inl fp)) q⟩)
theorem M.own {p : Addr} {vs : List V} {ds : List PyData} (S : M (pt p (.lst vs) :: Rs) H) (h : EnF Rs (fun F => DqAll K F vs ds)) : M (acR K p ds :: Rs) H := by
  obtain ⟨F, L, ⟨l1, l2, rfl, a, b⟩, m⟩ := S
  exact ⟨F, _, ⟨l1, l2, rfl, ⟨vs, l1, [], by simp, a, rfl, h F l2 b⟩, b⟩, m⟩
theorem v_lsto {vs : List V} {ds : List PyData} (S : M Rs H) (h : EnF Rs (fun F => DqAll K F vs ds)) (hn : vs.length ≤ 100000) (k : ∀ p H', M (acR K p ds :: Rs) H' → Q (.ref p) H') : LstK Q vs H :=
  v_lst S hn fun p H' S' => k p H' (S'.own h)
theorem v_tupq {vs : List V} {ds : List PyData} (S : M Rs H) (h : EnF Rs (fun F => DqAll K F vs ds)) (hn : vs.length ≤ 100000) (k : ∀ p H', M (da K (.ref p) (.tuple ds) :: Rs) H' → Q (.ref p) H') : TupK Q vs H :=
  v_tup S hn fun p H' S' => k p H' (S'.fixG h fun F q fp => ⟨rfl, .tup (.inl (.inl fp)) q⟩)
theorem atI_get {γ : Type} {xs : List γ} {i : Int} {x : γ} (h : atI xs i = some x) : ∃ j, ixN xs.length i = some j ∧ xs[j]? = some x := by
  unfold atI at h
  cases e : ixN xs.length i with
  | none => rw [e] at h; cases h
  | some j => rw [e] at h; exact ⟨j, rfl, h⟩
theorem atI_of {γ : Type} {xs : List γ} {i : Int} {x : γ} {j : Nat} (h1 : ixN xs.length i = some j) (h2 : xs[j]? = some x) : atI xs i = some x := by
  unfold atI
  rw [h1]
  exact h2
theorem DqAll.get {vs : List V} {ds : List PyData} {j : Nat} {d : PyData} (q : DqAll K H vs ds) (h : ds[j]? = some d) : ∃ v, vs[j]? = some v ∧ Dq K H v d := by
  have hj : j < vs.length := by rw [q.len]; exact (List.getElem?_eq_some_iff.mp h).1
  exact ⟨_, List.getElem?_eq_getElem hj, q.at (List.getElem?_eq_getElem hj) h⟩
theorem v_ixq {v : V} {ds : List PyData} {i : Int} {d : PyData} (S : M Rs H) (hj : EnF Rs (fun F => Dq K F v (.list ds)) ∨ EnF Rs (fun F => Dq K F v (.tuple ds))) (hx : atI ds i = some d) (k : ∀ u, M (da K u d :: Rs) H → Q u H) : uIx K v (.int i) H Q := by
  obtain ⟨j, h1, h2⟩ := atI_get hx
  obtain ⟨F, L, s, m⟩ := S
  rcases hj with hj | hj
  · cases hj F L s with
    | lst a q =>
      obtain ⟨u, h3, h4⟩ := q.get h2
      exact v_ixL (m.ex.sqL a) (atI_of (by rw [q.len]; exact h1) h3) (k u ⟨F, L, ⟨[], L, rfl, ⟨rfl, h4⟩, s⟩, m⟩)
  · cases hj F L s with
    | tup a q =>
      obtain ⟨u, h3, h4⟩ := q.get h2
      exact v_ixT (m.ex.sqT a) (atI_of (by rw [q.len]; exact h1) h3) (k u ⟨F, L, ⟨[], L, rfl, ⟨rfl, h4⟩, s⟩, m⟩)
theorem atI_map {γ δ : Type} {f : γ → δ} {xs : List γ} {i : Int} {x : γ} (h : atI xs i = some x) : atI (xs.map f) i = some (f x) := by
  obtain ⟨j, h1, h2⟩ := atI_get h
  exact atI_of (by rw [List.length_map]; exact h1) (by rw [List.getElem?_map, h2]; rfl)
theorem v_ixl {e : α → PyData} {v : V} {xs : List α} {i : Int} {x : α} (S : M Rs H) (j : Nat) (hj : Rs[j]? = some (da K v (eL e xs))) (hx : atI xs i = some x) (k : ∀ u, M (da K u (e x) :: Rs) H → Q u H) : uIx K v (.int i) H Q :=
  v_ixq S (.inl (EnF.at j hj)) (atI_map hx) k
theorem v_ixv {e : α → PyData} {v : V} {xs : List α} {i : Int} {x : α} (S : M Rs H) (j : Nat) (hj : Rs[j]? = some (da K v (eV e xs))) (hx : atI xs i = some x) (k : ∀ u, M (da K u (e x) :: Rs) H → Q u H) : uIx K v (.int i) H Q :=
  v_ixq S (.inr (EnF.at j hj)) (atI_map hx) k
theorem v_ixt {v : V} {ds : List PyData} {i : Int} {d : PyData} (S : M Rs H) (j : Nat) (hj : Rs[j]? = some (da K v (.tuple ds))) (hx : atI ds i = some d) (k : ∀ u, M (da K u d :: Rs) H → Q u H) : uIx K v (.int i) H Q :=
  v_ixq S (.inr (EnF.at j hj)) hx k
theorem v_ixo {e : α → PyData} {p : Addr} {xs : List α} {i : Int} {x : α} (S : M Rs H) (j : Nat) (hj : Rs[j]? = some (acR K p (xs.map e))) (hx : atI xs i = some x) (k : ∀ u, M (da K u (e x) :: Rs) H → Q u H) : uIx K (.ref p) (.int i) H Q := by
  obtain ⟨n, h1, h2⟩ := atI_get hx
  obtain ⟨vs, S1⟩ := (S.at j hj).ex
  have S2 := S1.sp
  have h3 : (xs.map e)[n]? = some (e x) := by rw [List.getElem?_map, h2]; rfl
  obtain ⟨u, h4, h5⟩ := (S2.gotAA 1 rfl).get h3
  have hl := (S2.gotAA 1 rfl).len
  rw [List.length_map] at hl
  refine v_ixL (SqL.of (S2.got 0 rfl)) (atI_of (by rw [hl]; exact h1) h4) (k u ?_)
  have S3 := S2.elA 1 rfl h4 h2
  obtain ⟨F, L, ⟨l0, l1, rfl, ⟨rfl, q⟩, l2, l3, rfl, a, l4, l5, rfl, ⟨rfl, q2⟩, b⟩, m⟩ := S3
  have b' : Sat F (acR K p (xs.map e) :: Rs.eraseIdx j) (l2 ++ l5) := ⟨l2, l5, rfl, ⟨vs, l2, [], by simp, a, rfl, q2⟩, b⟩
  obtain ⟨L', pp, sat⟩ := b'.perm (perm_at j hj).symm
  exact ⟨F, L', ⟨[], L', rfl, ⟨rfl, q⟩, sat⟩, m.perm (by simpa using pp)⟩
theorem Dq.intV {v : V} {i : Int} (h : Dq K H v (.int i)) : v = .int i := by cases h; rfl
theorem Dq.strV {v : V} {i : Str} (h : Dq K H v (.str i)) : v = .str i := by cases h; rfl
theorem Dq.blV {v : V} {i : Bool} (h : Dq K H v (.bool i)) : v = .bl i := by cases h; rfl
theorem Dq.nonV {v : V} (h : Dq K H v .none) : v = .non := by cases h; rfl
theorem DqAll.takeA : ∀ {vs : List V} {ds : List PyData}, DqAll K H vs ds → ∀ n, DqAll K H (vs.take n) (ds.take n)
  | _, _, .nil, n => by
    rw [List.take_nil, List.take_nil]
    exact .nil
  | _, _, .cons a r, 0 => .nil
  | _, _, .cons a r, n + 1 => .cons a (DqAll.takeA r n)
theorem DqAll.dropA : ∀ {vs : List V} {ds : List PyData}, DqAll K H vs ds → ∀ n, DqAll K H (vs.drop n) (ds.drop n)
  | _, _, .nil, n => by
    rw [List.drop_nil, List.drop_nil]
    exact .nil
  | _, _, .cons a r, 0 => .cons a r
  | _, _, .cons a r, n + 1 => DqAll.dropA r n
theorem DqAll.app : ∀ {vs ws : List V} {ds es : List PyData}, DqAll K H vs ds → DqAll K H ws es → DqAll K H (vs ++ ws) (ds ++ es)
  | _, _, _, _, .nil, h => h
  | _, _, _, _, .cons a r, h => .cons a (DqAll.app r h)
theorem DqAll.cut {vs : List V} {ds : List PyData} (q : DqAll K H vs ds) (lo hi : Option Int) : DqAll K H (cutV vs lo hi) (cutL ds lo hi) := by
  unfold cutV cutL
  rw [q.len]
  exact (q.dropA _).takeA _
theorem cutL_map {γ δ : Type} (f : γ → δ) (xs : List γ) (lo hi : Option Int) : cutL (xs.map f) lo hi = (cutL xs lo hi).map f := by
  unfold cutL
  rw [List.length_map, List.map_take, List.map_drop]
theorem len_ok {n : Nat} (h : Nat.ble n 100000 = true) : n ≤ 100000 := Nat.le_of_ble_eq_true h
theorem acR_fixL {e : α → PyData} {E : Addr} {xs : List α} (S : M (acR K E (xs.map e) :: Rs) H) : M (da K (.ref E) (eL e xs) :: Rs) H := acR_fix S
theorem v_slq {e : α → PyData} {v : V} {xs : List α} {lo hi : Option Int} (S : M Rs H) (j : Nat) (hj : Rs[j]? = some (da K v (eL e xs))) (k : ∀ p H', M (acR K p ((cutL xs lo hi).map e) :: Rs) H' → Q (.ref p) H') : uSl K v lo hi H Q := by
  obtain ⟨F, L, s, m⟩ := S
  have d := EnF.at j hj F L s
  cases d with
  | lst a q =>
    refine v_slL (⟨F, L, ⟨[], L, rfl, ⟨rfl, q⟩, s⟩, m⟩ : M (daA K _ (xs.map e) :: Rs) H) (m.ex.sqL a) fun p H' S' => k p H' ?_
    obtain ⟨F, L, ⟨l1, l2, rfl, a1, l3, l4, rfl, ⟨rfl, q1⟩, b⟩, m⟩ := S'
    exact ⟨F, _, ⟨l1, l4, rfl, ⟨_, l1, [], by simp, a1, rfl, by rw [← cutL_map]; exact q1.cut lo hi⟩, b⟩, m⟩
theorem v_catq {e : α → PyData} {v w : V} {xs ys : List α} (S : M Rs H) (i j : Nat) (hi : Rs[i]? = some (da K v (eL e xs))) (hj : Rs[j]? = some (da K w (eL e ys))) (hz : xs.length + ys.length ≤ 100000) (k : ∀ p H', M (acR K p ((xs ++ ys).map e) :: Rs) H' → Q (.ref p) H') : uAdd K v w H Q := by
  obtain ⟨F, L, s, m⟩ := S
  have d := EnF.at i hi F L s
  have d' := EnF.at j hj F L s
  cases d with
  | lst a q =>
    cases d' with
    | lst a' q' =>
      have l1 := q.len
      have l2 := q'.len
      rw [List.length_map] at l1 l2
      refine v_catS (⟨F, L, ⟨[], L, rfl, ⟨rfl, q.app q'⟩, s⟩, m⟩ : M (daA K _ (xs.map e ++ ys.map e) :: Rs) H) (m.ex.sqL a) (m.ex.sqL a') (by rw [l1, l2]; exact hz) fun p H' S' => k p H' ?_
      obtain ⟨F, L, ⟨l1, l2, rfl, a1, l3, l4, rfl, ⟨rfl, q1⟩, b⟩, m⟩ := S'
      exact ⟨F, _, ⟨l1, l4, rfl, ⟨_, l1, [], by simp, a1, rfl, by rw [List.map_append]; exact q1⟩, b⟩, m⟩
/-- list(x) of a list, of a tuple -/
theorem v_liq {e : α → PyData} {v : V} {xs : List α} (S : M Rs H) (h : EnF Rs (fun F => Dq K F v (eL e xs)) ∨ EnF Rs (fun F => Dq K F v (eV e xs))) (k : ∀ p H', M (acR K p (xs.map e) :: Rs) H' → Q (.ref p) H') : rListOf K [v] H Q := by
  obtain ⟨F, L, s, m⟩ := S
  obtain ⟨a, vs, rfl, hs, q⟩ : ∃ a vs, v = .ref a ∧ (SqL K F a vs ∨ SqT K F a vs) ∧ DqAll K F vs (xs.map e) := by
    rcases h with h | h
    · cases h F L s with
      | lst a q => exact ⟨_, _, rfl, .inl a, q⟩
    · cases h F L s with
      | tup a q => exact ⟨_, _, rfl, .inr a, q⟩
  refine v_list (⟨F, L, ⟨[], L, rfl, ⟨rfl, q⟩, s⟩, m⟩ : M (daA K _ (xs.map e) :: Rs) H) (hs.imp (fun z => m.ex.sqL z) (fun z => m.ex.sqT z)) fun p H' S' => k p H' ?_
  obtain ⟨F, L, ⟨l1, l2, rfl, a1, l3, l4, rfl, ⟨rfl, q1⟩, b⟩, m⟩ := S'
  exact ⟨F, _, ⟨l1, l4, rfl, ⟨_, l1, [], by simp, a1, rfl, q1⟩, b⟩, m⟩
/-- list(x) of one's own list -/
theorem v_lio {p0 : Addr} {ds : List PyData} (S : M Rs H) (j : Nat) (hj : Rs[j]? = some (acR K p0 ds)) (k : ∀ p H', M (acR K p ds :: Rs) H' → Q (.ref p) H') : rListOf K [.ref p0] H Q := by
  obtain ⟨vs, S1⟩ := (S.at j hj).ex
  have S2 := S1.sp
  refine v_list S2 (.inl (SqL.of (S2.got 0 rfl))) fun p H' S' => k p H' ?_
  obtain ⟨F, L, ⟨l1, l2, rfl, a1, l3, l4, rfl, a2, l5, l6, rfl, ⟨rfl, q⟩, b⟩, m⟩ := S'
  have b' : Sat F (acR K p0 ds :: Rs.eraseIdx j) (l3 ++ l6) := ⟨l3, l6, rfl, ⟨vs, l3, [], by simp, a2, rfl, q⟩, b⟩
  obtain ⟨L', pp, sat⟩ := b'.perm (perm_at j hj).symm
  exact ⟨F, l1 ++ L', ⟨l1, L', rfl, ⟨vs, l1, [], by simp, a1, rfl, q⟩, sat⟩, m.perm (by simpa using pp.append_left l1)⟩
theorem v_lenq {v : V} {ds : List PyData} (S : M Rs H) (h : EnF Rs (fun F => Dq K F v (.list ds)) ∨ EnF Rs (fun F => Dq K F v (.tuple ds))) (k : Q (.int (ds.length : Nat)) H) : uLen K [v] H Q := by
  obtain ⟨F, L, s, m⟩ := S
  rcases h with h | h
  · cases h F L s with
    | lst a q => exact .inl ⟨_, _, rfl, .inl ⟨_, m.ex.sqL a, q.len.symm⟩, k⟩
  · cases h F L s with
    | tup a q => exact .inl ⟨_, _, rfl, .inr ⟨_, m.ex.sqT a, q.len.symm⟩, k⟩
theorem v_lenl {e : α → PyData} {v : V} {xs : List α} (S : M Rs H) (j : Nat) (hj : Rs[j]? = some (da K v (eL e xs))) (k : Q (.int (xs.length : Nat)) H) : uLen K [v] H Q :=
  v_lenq S (.inl (EnF.at j hj)) (by rw [List.length_map]; exact k)
theorem v_lenv {e : α → PyData} {v : V} {xs : List α} (S : M Rs H) (j : Nat) (hj : Rs[j]? = some (da K v (eV e xs))) (k : Q (.int (xs.length : Nat)) H) : uLen K [v] H Q :=
  v_lenq S (.inr (EnF.at j hj)) (by rw [List.length_map]; exact k)
theorem v_leno {e : α → PyData} {p : Addr} {xs : List α} (S : M Rs H) (j : Nat) (hj : Rs[j]? = some (acR K p (xs.map e))) (k : Q (.int (xs.length : Nat)) H) : uLen K [.ref p] H Q := by
  obtain ⟨vs, S1⟩ := (S.at j hj).ex
  have S2 := S1.sp
  have hl := (S2.gotAA 1 rfl).len
  rw [List.length_map] at hl
  exact v_lenL (SqL.of (S2.got 0 rfl)) (by rw [hl]; exact k)
theorem M.tyO {p : Addr} {ds : List PyData} {φ : Prop} (S : M Rs H) (j : Nat) (hj : Rs[j]? = some (acR K p ds)) (k : φ) : tyV K "list" (.ref p) H ∧ φ := by
  obtain ⟨vs, S1⟩ := (S.at j hj).ex
  exact v_tyL (SqL.of (S1.sp.got 0 rfl)) k
theorem v_apo {p : Addr} {ds : List PyData} {y : V} {d : PyData} (S : M Rs H) (j : Nat) (hj : Rs[j]? = some (acR K p ds)) (h : EnF Rs (fun F => Dq K F y d)) (hz : ds.length < 100000) (k : ∀ H', M (acR K p (ds ++ [d]) :: Rs.eraseIdx j) H' → Q .non H') : rAppend (.ref p) [y] H Q := by
  have S0 : M (da K y d :: Rs) H := S.addA h
  have S1 : M (acR K p ds :: da K y d :: Rs.eraseIdx j) H := (S0.at (j + 1) (by simpa using hj))
  obtain ⟨vs, S2⟩ := S1.ex
  have S3 := S2.sp
  have hl : vs.length = ds.length := (S3.gotAA 1 rfl).len
  refine v_app S3 0 rfl (by rw [hl]; exact hz) fun H' S4 => k H' ?_
  obtain ⟨F, L, ⟨l1, l2, rfl, a, l3, l4, rfl, ⟨rfl, q⟩, l5, l6, rfl, ⟨rfl, q2⟩, b⟩, m⟩ := S4
  exact ⟨F, _, ⟨l1, l6, by simp, ⟨vs ++ [y], l1, [], by simp, a, rfl, DqAll.snoc q2 q⟩, b⟩, m⟩
theorem v_apl {e : α → PyData} {p : Addr} {xs : List α} {y : V} {x : α} (S : M Rs H) (j : Nat) (hj : Rs[j]? = some (acR K p (xs.map e))) (h : EnF Rs (fun F => Dq K F y (e x))) (hz : xs.length < 100000) (k : ∀ H', M (acR K p ((xs ++ [x]).map e) :: Rs.eraseIdx j) H' → Q .non H') : rAppend (.ref p) [y] H Q :=
  v_apo S j hj h (by rw [List.length_map]; exact hz) fun H' S' => k H' (by rw [List.map_append]; exact S')
theorem DqAll.setA {v : V} {d : PyData} (h : Dq K H v d) : ∀ {vs : List V} {ds : List PyData}, DqAll K H vs ds → ∀ n, DqAll K H (vs.set n v) (ds.set n d)
  | _, _, .nil, _ => .nil
  | _, _, .cons a r, 0 => .cons h r
  | _, _, .cons a r, n + 1 => .cons a (DqAll.setA h r n)
theorem v_setl {e : α → PyData} {p : Addr} {xs : List α} {y : V} {x : α} {i : Int} {n : Nat} {Q : Hp → Prop} (S : M Rs H) (j : Nat) (hj : Rs[j]? = some (acR K p (xs.map e))) (hx : ixN xs.length i = some n) (h : EnF Rs (fun F => Dq K F y (e x)))
    (k : ∀ H', M (acR K p ((xs.set n x).map e) :: Rs.eraseIdx j) H' → Q H') : uSet (.ref p) (.int i) y H Q := by
  have S0 : M (da K y (e x) :: Rs) H := S.addA h
  have S1 : M (acR K p (xs.map e) :: da K y (e x) :: Rs.eraseIdx j) H := (S0.at (j + 1) (by simpa using hj))
  obtain ⟨vs, S2⟩ := S1.ex
  have S3 := S2.sp
  have hl : vs.length = xs.length := by
    have := (S3.gotAA 1 rfl).len
    rwa [List.length_map] at this
  refine v_set S3 0 rfl (j := n) (by rw [hl]; exact hx) fun H' S4 => k H' ?_
  obtain ⟨F, L, ⟨l1, l2, rfl, a, l3, l4, rfl, ⟨rfl, q⟩, l5, l6, rfl, ⟨rfl, q2⟩, b⟩, m⟩ := S4
  exact ⟨F, _, ⟨l1, l6, by simp, ⟨vs.set n y, l1, [], by simp, a, rfl, by rw [List.map_set]; exact DqAll.setA q2 q n⟩, b⟩, m⟩
end
end RC

namespace RC
open PySem PySem.Spec PyProof.Rows L2
/-! ### dicts of one's own -/
section
variable {κ α : Type} [DecidableEq κ]
def lk (m : List (κ × α)) (k : κ) : Option α := (m.find? fun p => decide (p.1 = k)).map (·.2)
def pk (m : List (κ × α)) (k : κ) (x : α) : List (κ × α) := if (m.any fun p => decide (p.1 = k)) = true then m.map (fun p => if p.1 = k then (p.1, x) else p) else m ++ [(k, x)]
def dk (m : List (κ × α)) (k : κ) : List (κ × α) := m.filter fun p => decide (p.1 ≠ k)
def ks (m : List (κ × α)) : List κ := m.map (·.1)
theorem lk_cons (p : κ × α) (m : List (κ × α)) (k : κ) : lk (p :: m) k = if p.1 = k then some p.2 else lk m k := by
  unfold lk
  rw [List.find?_cons]
  by_cases h : p.1 = k
  · simp [h]
  · simp [h]
theorem any_lk (m : List (κ × α)) (k : κ) : (m.any fun p => decide (p.1 = k)) = (lk m k).isSome := by
  induction m with
  | nil => rfl
  | cons p m ih =>
    rw [List.any_cons, ih, lk_cons]
    by_cases h : p.1 = k
    · simp [h]
    · simp [h]
end
inductive TKv {κ α : Type} (K : PySem.W.Frag) (H : Hp) (ik : κ → Key) (e : α → PyData) : List (Key × V) → List (κ × α) → Prop
  | nil : TKv K H ik e [] []
  | cons {k : κ} {v : V} {x : α} {r : List (Key × V)} {m : List (κ × α)} (h : Dq K H v (e x)) (t : TKv K H ik e r m) : TKv K H ik e ((ik k, v) :: r) ((k, x) :: m)
section
variable {κ α : Type} {K : PySem.W.Frag} {H H' : Hp} {ik : κ → Key} {e : α → PyData} {kvs : List (Key × V)} {m : List (κ × α)}
theorem TKv.ext (x : Ext H H') : ∀ {kvs : List (Key × V)} {m : List (κ × α)}, TKv K H ik e kvs m → TKv K H' ik e kvs m
  | _, _, .nil => .nil
  | _, _, .cons h t => .cons (Dq_ext x h) (TKv.ext x t)
theorem TKv.kv : ∀ {kvs : List (Key × V)} {m : List (κ × α)}, TKv K H ik e kvs m → DqKv K H kvs (m.map fun p => (kD (ik p.1), e p.2))
  | _, _, .nil => .nil
  | _, _, .cons h t => .cons h (TKv.kv t)
theorem TKv.len : ∀ {kvs : List (Key × V)} {m : List (κ × α)}, TKv K H ik e kvs m → kvs.length = m.length
  | _, _, .nil => rfl
  | _, _, .cons h t => by rw [List.length_cons, List.length_cons, TKv.len t]
theorem TKv.keys : ∀ {kvs : List (Key × V)} {m : List (κ × α)}, TKv K H ik e kvs m → kvs.map (·.1) = (ks m).map ik
  | _, _, .nil => rfl
  | _, _, .cons h t => by
    have := TKv.keys t
    simp only [ks, List.map_cons] at this ⊢
    rw [this]
variable [DecidableEq κ]
theorem TKv.some (inj : ∀ a b, ik a = ik b → a = b) {k : κ} {x : α} : ∀ {kvs : List (Key × V)} {m : List (κ × α)}, TKv K H ik e kvs m → lk m k = some x → ∃ v, valV kvs (ik k) = Option.some v ∧ Dq K H v (e x)
  | _, _, .nil, h => by cases h
  | _, _, .cons (k := k') h t, g => by
    rw [lk_cons] at g
    by_cases z : k' = k
    · subst z
      rw [if_pos rfl] at g
      cases g
      exact ⟨_, valV_pos rfl, h⟩
    · rw [if_neg z] at g
      obtain ⟨v, a, b⟩ := TKv.some inj t g
      exact ⟨v, by rw [valV_neg (fun q => z (inj _ _ q))]; exact a, b⟩
theorem TKv.none (inj : ∀ a b, ik a = ik b → a = b) {k : κ} : ∀ {kvs : List (Key × V)} {m : List (κ × α)}, TKv K H ik e kvs m → lk m k = none → valV kvs (ik k) = Option.none
  | _, _, .nil, h => rfl
  | _, _, .cons (k := k') h t, g => by
    rw [lk_cons] at g
    by_cases z : k' = k
    · subst z
      rw [if_pos rfl] at g
      cases g
    · rw [if_neg z] at g
      rw [valV_neg (fun q => z (inj _ _ q))]
      exact TKv.none inj t g
theorem TKv.isSome (inj : ∀ a b, ik a = ik b → a = b) (t : TKv K H ik e kvs m) (k : κ) : (valV kvs (ik k)).isSome = (lk m k).isSome := by
  cases h : lk m k with
  | none =>
    rw [t.none inj h]
    rfl
  | some x =>
    obtain ⟨v, a, _⟩ := t.some inj h
    rw [a]
    rfl
theorem TKv.app {r : List (Key × V)} {n : List (κ × α)} (b : TKv K H ik e r n) : ∀ {kvs : List (Key × V)} {m : List (κ × α)}, TKv K H ik e kvs m → TKv K H ik e (kvs ++ r) (m ++ n)
  | _, _, .nil => b
  | _, _, .cons h t => .cons h (TKv.app b t)
theorem TKv.upd (inj : ∀ a b, ik a = ik b → a = b) {k : κ} {x : α} {v : V} (d : Dq K H v (e x)) : ∀ {kvs : List (Key × V)} {m : List (κ × α)}, TKv K H ik e kvs m →
    TKv K H ik e (kvs.map fun kv => if kv.1 = ik k then (kv.1, v) else kv) (m.map fun p => if p.1 = k then (p.1, x) else p)
  | _, _, .nil => .nil
  | _, _, .cons (k := k') h t => by
    rw [List.map_cons, List.map_cons]
    by_cases z : k' = k
    · subst z
      rw [if_pos rfl, if_pos rfl]
      exact .cons d (TKv.upd inj d t)
    · rw [if_neg (fun q => z (inj _ _ q)), if_neg z]
      exact .cons h (TKv.upd inj d t)
theorem TKv.put (inj : ∀ a b, ik a = ik b → a = b) {k : κ} {x : α} {v : V} (t : TKv K H ik e kvs m) (d : Dq K H v (e x)) : TKv K H ik e (putK kvs (ik k) v) (pk m k x) := by
  unfold putK pk
  rw [any_lk m k, valV_any (ik k) kvs, t.isSome inj]
  cases lk m k with
  | none =>
    rw [if_neg (by simp), if_neg (by simp)]
    exact TKv.app (.cons d .nil) t
  | some y =>
    rw [if_pos (by rfl), if_pos (by rfl)]
    exact TKv.upd inj d t
theorem TKv.drop (inj : ∀ a b, ik a = ik b → a = b) {k : κ} : ∀ {kvs : List (Key × V)} {m : List (κ × α)}, TKv K H ik e kvs m → TKv K H ik e (dropK kvs (ik k)) (dk m k)
  | _, _, .nil => .nil
  | _, _, .cons (k := k') h t => by
    have ih := TKv.drop (k := k) inj t
    unfold dropK dk at ih ⊢
    by_cases z : k' = k
    · subst z
      rw [List.filter_cons_of_neg (by simp), List.filter_cons_of_neg (by simp)]
      exact ih
    · rw [List.filter_cons_of_pos (by simpa using fun q => z (inj _ _ q)), List.filter_cons_of_pos (by simpa using z)]
      exact .cons h ih
end
theorem injI (a b : Int) (h : iI a = iI b) : a = b := Sum.inl.inj h
theorem injS (a b : Str) (h : iS a = iS b) : a = b := Sum.inr.inj h
section
variable {κ α : Type} {K : PySem.W.Frag} {ik : κ → Key} {e : α → PyData} {m : List (κ × α)} {Rs : List Res} {H : Hp} {Q : VK} {σ : L2.St} {D : Ends} {p : Addr}
def tkR (K : PySem.W.Frag) (ik : κ → Key) (e : α → PyData) (kvs : List (Key × V)) (m : List (κ × α)) : Res := ⟨fun F l => l = [] ∧ TKv K F ik e kvs m, fun _ _ _ x h => ⟨h.1, TKv.ext x h.2⟩⟩
def adR (K : PySem.W.Frag) (ik : κ → Key) (e : α → PyData) (p : Addr) (m : List (κ × α)) : Res := exi fun kvs => sp2 (pt p (.dK kvs)) (tkR K ik e kvs m)
theorem M.gotT {kvs : List (Key × V)} (S : M Rs H) (i : Nat) (h : Rs[i]? = some (tkR K ik e kvs m)) : TKv K H ik e kvs m := by
  obtain ⟨F, L, s, mm⟩ := S
  obtain ⟨l, h⟩ := s.get i h
  exact TKv.ext mm.ex h.2
theorem adR_open (S : M Rs H) (j : Nat) (hj : Rs[j]? = some (adR K ik e p m)) : ∃ kvs, M (pt p (.dK kvs) :: tkR K ik e kvs m :: Rs.eraseIdx j) H := by
  obtain ⟨kvs, S1⟩ := (S.at j hj).ex
  exact ⟨kvs, S1.sp⟩
theorem adR_close {kvs : List (Key × V)} (S : M (pt p (.dK kvs) :: tkR K ik e kvs m :: Rs) H) : M (adR K ik e p m :: Rs) H := M.ex' (T := fun kvs => sp2 (pt p (.dK kvs)) (tkR K ik e kvs m)) kvs S.sp'
theorem adR_back {kvs : List (Key × V)} (j : Nat) (hj : Rs[j]? = some (adR K ik e p m)) (S : M (pt p (.dK kvs) :: tkR K ik e kvs m :: Rs.eraseIdx j) H) : M Rs H := (adR_close S).perm (perm_at j hj).symm
theorem v_dnewo (S : M Rs H) (k : ∀ p H', M (adR K ik e p ([] : List (κ × α)) :: Rs) H' → Q (.ref p) H') : tDNewK σ H Q := v_dnew S fun p H' S' => k p H' (by
  obtain ⟨F, L, ⟨l1, l2, rfl, a, b⟩, mm⟩ := S'
  exact ⟨F, _, ⟨l1, l2, rfl, ⟨[], l1, [], by simp, a, rfl, .nil⟩, b⟩, mm⟩)
theorem M.gotDk (S : M Rs H) (j : Nat) (hj : Rs[j]? = some (adR K ik e p m)) : ∃ kvs, H p = some (.dK kvs) ∧ TKv K H ik e kvs m := by
  obtain ⟨kvs, S1⟩ := adR_open S j hj
  exact ⟨kvs, S1.got 0 rfl, S1.gotT 1 rfl⟩
theorem v_lend (S : M Rs H) (j : Nat) (hj : Rs[j]? = some (adR K ik e p m)) (k : Q (.int (m.length : Nat)) H) : uLen K [.ref p] H Q := by
  obtain ⟨kvs, h, t⟩ := S.gotDk j hj
  exact v_lenD h (by rw [t.len]; exact k)
variable [DecidableEq κ]
theorem v_indS {e : α → PyData} {m : List (Str × α)} {n : Str} (S : M Rs H) (j : Nat) (hj : Rs[j]? = some (adR K iS e p m)) (k : Q (.bl (lk m n).isSome) H) : uIn K (.str n) (.ref p) H Q := by
  obtain ⟨kvs, h, t⟩ := S.gotDk j hj
  exact v_inKS h (by rw [show (Sum.inr n : Key) = iS n from rfl, t.isSome injS]; exact k)
theorem v_nindS {e : α → PyData} {m : List (Str × α)} {n : Str} (S : M Rs H) (j : Nat) (hj : Rs[j]? = some (adR K iS e p m)) (k : Q (.bl (!(lk m n).isSome)) H) : uNotIn K (.str n) (.ref p) H Q := by
  obtain ⟨kvs, h, t⟩ := S.gotDk j hj
  exact v_ninKS h (by rw [show (Sum.inr n : Key) = iS n from rfl, t.isSome injS]; exact k)
theorem v_indI {e : α → PyData} {m : List (Int × α)} {n : Int} (S : M Rs H) (j : Nat) (hj : Rs[j]? = some (adR K iI e p m)) (k : Q (.bl (lk m n).isSome) H) : uIn K (.int n) (.ref p) H Q := by
  obtain ⟨kvs, h, t⟩ := S.gotDk j hj
  exact v_inK h (by rw [show (Sum.inl n : Key) = iI n from rfl, t.isSome injI]; exact k)
theorem v_nindI {e : α → PyData} {m : List (Int × α)} {n : Int} (S : M Rs H) (j : Nat) (hj : Rs[j]? = some (adR K iI e p m)) (k : Q (.bl (!(lk m n).isSome)) H) : uNotIn K (.int n) (.ref p) H Q := by
  obtain ⟨kvs, h, t⟩ := S.gotDk j hj
  exact v_ninK h (by rw [show (Sum.inl n : Key) = iI n from rfl, t.isSome injI]; exact k)
/-- d[k] -/
theorem ixd_core {k : κ} {x : α} (inj : ∀ a b, ik a = ik b → a = b) (S : M Rs H) (j : Nat) (hj : Rs[j]? = some (adR K ik e p m)) (hx : lk m k = some x) : ∃ kvs v, H p = some (.dK kvs) ∧ valV kvs (ik k) = some v ∧ M (da K v (e x) :: Rs) H := by
  obtain ⟨kvs, S1⟩ := adR_open S j hj
  obtain ⟨F, L, ⟨l1, l2, rfl, a, l3, l4, rfl, ⟨rfl, t⟩, b⟩, mm⟩ := id S1
  obtain ⟨v, h1, h2⟩ := t.some inj hx
  refine ⟨kvs, v, S1.got 0 rfl, h1, ?_⟩
  have b' : Sat F (adR K ik e p m :: Rs.eraseIdx j) (l1 ++ l4) := ⟨l1, l4, rfl, ⟨kvs, l1, [], by simp, a, rfl, t⟩, b⟩
  obtain ⟨L', pp, sat⟩ := b'.perm (perm_at j hj).symm
  exact ⟨F, L', ⟨[], L', rfl, ⟨rfl, h2⟩, sat⟩, mm.perm (by simpa using pp)⟩
theorem v_ixdS {e : α → PyData} {m : List (Str × α)} {n : Str} {x : α} (S : M Rs H) (j : Nat) (hj : Rs[j]? = some (adR K iS e p m)) (hx : lk m n = some x) (k : ∀ u, M (da K u (e x) :: Rs) H → Q u H) : rIxK (.ref p) (.str n) H Q := by
  obtain ⟨kvs, v, h1, h2, S2⟩ := ixd_core injS S j hj hx
  exact v_ixKS h1 h2 (k v S2)
theorem v_ixdI {e : α → PyData} {m : List (Int × α)} {n : Int} {x : α} (S : M Rs H) (j : Nat) (hj : Rs[j]? = some (adR K iI e p m)) (hx : lk m n = some x) (k : ∀ u, M (da K u (e x) :: Rs) H → Q u H) : rIxK (.ref p) (.int n) H Q := by
  obtain ⟨kvs, v, h1, h2, S2⟩ := ixd_core injI S j hj hx
  exact v_ixK h1 h2 (k v S2)
/-- d[k] = v -/
theorem putd_core {k : κ} {x : α} {y : V} (inj : ∀ a b, ik a = ik b → a = b) (S : M Rs H) (j : Nat) (hj : Rs[j]? = some (adR K ik e p m)) (h : EnF Rs (fun F => Dq K F y (e x))) :
    ∃ kvs, H p = some (.dK kvs) ∧ kvs.length = m.length ∧ M (adR K ik e p (pk m k x) :: Rs.eraseIdx j) (upd H p (.dK (putK kvs (ik k) y))) := by
  have S0 : M (da K y (e x) :: Rs) H := S.addA h
  obtain ⟨kvs, S1⟩ := adR_open S0 (j + 1) (by simpa using hj)
  have hl := (S1.gotT 1 rfl).len
  refine ⟨kvs, S1.got 0 rfl, hl, ?_⟩
  have S2 := S1.putAt (o' := .dK (putK kvs (ik k) y)) 0 rfl
  obtain ⟨F, L, ⟨l1, l2, rfl, a, l3, l4, rfl, ⟨rfl, t⟩, l5, l6, rfl, ⟨rfl, d⟩, b⟩, mm⟩ := S2
  exact ⟨F, _, ⟨l1, l6, by simp, ⟨_, l1, [], by simp, a, rfl, t.put inj d⟩, b⟩, mm⟩
theorem v_putdS {e : α → PyData} {m : List (Str × α)} {n : Str} {x : α} {y : V} {Q : Hp → Prop} (S : M Rs H) (j : Nat) (hj : Rs[j]? = some (adR K iS e p m)) (h : EnF Rs (fun F => Dq K F y (e x))) (hz : m.length < 100000)
    (k : ∀ H', M (adR K iS e p (pk m n x) :: Rs.eraseIdx j) H' → Q H') : uSet (.ref p) (.str n) y H Q := by
  obtain ⟨kvs, h1, h2, S2⟩ := putd_core (k := n) injS S j hj h
  exact .inr ⟨p, _, rfl, DPut.k (k := Sum.inr n) h1 (Nat.lt_of_lt_of_le (by rw [h2]; exact hz) (by decide)), k _ S2⟩
theorem v_putdI {e : α → PyData} {m : List (Int × α)} {n : Int} {x : α} {y : V} {Q : Hp → Prop} (S : M Rs H) (j : Nat) (hj : Rs[j]? = some (adR K iI e p m)) (h : EnF Rs (fun F => Dq K F y (e x))) (hz : m.length < 100000)
    (k : ∀ H', M (adR K iI e p (pk m n x) :: Rs.eraseIdx j) H' → Q H') : uSet (.ref p) (.int n) y H Q := by
  obtain ⟨kvs, h1, h2, S2⟩ := putd_core (k := n) injI S j hj h
  exact .inr ⟨p, _, rfl, DPut.k (k := Sum.inl n) h1 (Nat.lt_of_lt_of_le (by rw [h2]; exact hz) (by decide)), k _ S2⟩
/-- freezing: behind an expression a thing may be locked for ever -/
def FzK (Q : VK) : VK := fun v H => Q v H ∨ ∃ d u, H d = some u ∧ Mut (some u) ∧ ∀ od, Q v (upd H d (.frz od u))
def tFzE (t : TE) : TE := fun σ H Q => t σ H (FzK Q)
theorem pe_fz {X : Cx} {x : Expr} {t : TE} (h : PE X x t) : PE X x (tFzE t) := ⟨fun pins s σ H Q I hw => thn (h.run pins s σ H _ I hw) fun v s1 ⟨y, H1, I1, r, q⟩ => by
  rcases q with q | ⟨d, u, hd, mu, q⟩
  · exact ⟨y, H1, I1, r, q⟩
  · obtain ⟨od, I2⟩ := I1.lock hd mu
    exact ⟨y, _, I2, r, q od⟩⟩
theorem v_fz0 {v : V} (k : Q v H) : FzK Q v H := .inl k
theorem adR_frz {kvs : List (Key × V)} {od : Obj} (S : M (pt p (.dK kvs) :: tkR K ik e kvs m :: Rs) H) : M (da K (.ref p) (eD ik e m) :: Rs) (upd H p (.frz od (.dK kvs))) := by
  have S1 : M (pt p (.frz od (.dK kvs)) :: tkR K ik e kvs m :: Rs) (upd H p (.frz od (.dK kvs))) := S.putAt 0 rfl
  obtain ⟨F, L, ⟨l1, l2, rfl, ⟨rfl, fp⟩, l3, l4, rfl, ⟨rfl, t⟩, b⟩, mm⟩ := S1.fix
  exact ⟨F, l4, ⟨[], l4, rfl, ⟨rfl, .dct fp t.kv⟩, b⟩, mm⟩
/-- a dict of one's own is data from now on -/
theorem v_fzD {v : V} (S : M Rs H) (j : Nat) (hj : Rs[j]? = some (adR K ik e p m)) (k : ∀ H', M (da K (.ref p) (eD ik e m) :: Rs.eraseIdx j) H' → Q v H') : FzK Q v H := by
  obtain ⟨kvs, S1⟩ := adR_open S j hj
  exact .inr ⟨p, .dK kvs, S1.got 0 rfl, trivial, fun od => k _ (adR_frz S1)⟩
/-! sorted -/
def srtS (xs : List Str) : List Str := xs.mergeSort fun a b => decide (a.cps.toList ≤ b.cps.toList)
end
end RC
namespace RC
open PySem PySem.Spec PyProof.Rows L2
/-! ### texts in order -/
def leS (a b : Str) : Bool := !ltCps b.cps.toList a.cps.toList
def srtS' (xs : List Str) : List Str := xs.mergeSort leS
theorem ltCps_irrefl : ∀ a : List Nat, ltCps a a = false
  | [] => rfl
  | x :: r => by simp [ltCps, ltCps_irrefl r]
theorem ltCps_trans : ∀ a b c : List Nat, ltCps a b = true → ltCps b c = true → ltCps a c = true
  | [], [], _, h, _ => by simp [ltCps] at h
  | [], _ :: _, [], _, h => by simp [ltCps] at h
  | [], _ :: _, _ :: _, _, _ => rfl
  | _ :: _, [], _, h, _ => by simp [ltCps] at h
  | _ :: _, _ :: _, [], _, h => by simp [ltCps] at h
  | x :: r, y :: s, z :: t, h, g => by
    simp only [ltCps, Bool.or_eq_true, Bool.and_eq_true, decide_eq_true_eq, beq_iff_eq] at h g ⊢
    rcases h with h | ⟨h, h'⟩
    · rcases g with g | ⟨g, _⟩
      · exact .inl (by omega)
      · exact .inl (by omega)
    · rcases g with g | ⟨g, g'⟩
      · exact .inl (by omega)
      · exact .inr ⟨by omega, ltCps_trans r s t h' g'⟩
theorem ltCps_tri : ∀ a b : List Nat, ltCps a b = false → ltCps b a = false → a = b
  | [], [], _, _ => rfl
  | [], _ :: _, h, _ => by simp [ltCps] at h
  | _ :: _, [], _, h => by simp [ltCps] at h
  | x :: r, y :: s, h, g => by
    simp only [ltCps, Bool.or_eq_false_iff, Bool.and_eq_false_iff, decide_eq_false_iff_not, beq_eq_false_iff_ne] at h g
    have e : x = y := by omega
    subst e
    rw [ltCps_tri r s (by simpa using h.2) (by simpa using g.2)]
theorem leS_refl (a : Str) : leS a a = true := by simp [leS, ltCps_irrefl]
theorem leS_total (a b : Str) : (leS a b || leS b a) = true := by
  unfold leS
  cases h : ltCps b.cps.toList a.cps.toList with
  | false => rfl
  | true =>
    cases g : ltCps a.cps.toList b.cps.toList with
    | false => rfl
    | true =>
      have := ltCps_trans _ _ _ h g
      rw [ltCps_irrefl] at this
      cases this
theorem leS_trans (a b c : Str) (h : leS a b = true) (g : leS b c = true) : leS a c = true := by
  unfold leS at *
  cases k : ltCps c.cps.toList a.cps.toList with
  | false => rfl
  | true =>
    exfalso
    rw [Bool.not_eq_true'] at h g
    cases z : ltCps b.cps.toList c.cps.toList with
    | true =>
      have := ltCps_trans _ _ _ z k
      rw [this] at h
      cases h
    | false =>
      have e := ltCps_tri _ _ z g
      rw [e] at h
      rw [h] at k
      cases k
theorem leS_anti (a b : Str) (h : leS a b = true) (g : leS b a = true) : a = b := by
  unfold leS at *
  rw [Bool.not_eq_true'] at h g
  have e := ltCps_tri _ _ g h
  obtain ⟨x⟩ := a
  obtain ⟨y⟩ := b
  have e' : x = y := Array.toList_inj.mp e
  rw [e']
theorem sortedS_pw : ∀ {l : List Str}, sortedS l = true → l.Pairwise (fun a b => leS a b = true)
  | [], _ => List.Pairwise.nil
  | [x], _ => by simp
  | x :: y :: r, h => by
    have h' : (!ltCps y.cps.toList x.cps.toList && risingS y r) = true := h
    rw [Bool.and_eq_true] at h'
    have ih := sortedS_pw (l := y :: r) h'.2
    refine List.pairwise_cons.mpr ⟨fun z hz => ?_, ih⟩
    rcases List.mem_cons.mp hz with rfl | hz
    · exact h'.1
    · exact leS_trans _ _ _ h'.1 ((List.pairwise_cons.mp ih).1 z hz)
theorem pwS_eq : ∀ {xs ys : List Str}, xs.Perm ys → xs.Pairwise (fun a b => leS a b = true) → ys.Pairwise (fun a b => leS a b = true) → xs = ys
  | [], ys, p, _, _ => (List.nil_perm.mp p).symm
  | x :: xs, [], p, _, _ => absurd p.length_eq (by simp)
  | x :: xs, y :: ys, p, h1, h2 => by
    obtain ⟨a1, a2⟩ := List.pairwise_cons.mp h1
    obtain ⟨b1, b2⟩ := List.pairwise_cons.mp h2
    have e : x = y := by
      have m1 : y ∈ x :: xs := p.mem_iff.mpr List.mem_cons_self
      have m2 : x ∈ y :: ys := p.mem_iff.mp List.mem_cons_self
      rcases List.mem_cons.mp m1 with z | z
      · exact z.symm
      · rcases List.mem_cons.mp m2 with w | w
        · exact w
        · exact leS_anti _ _ (a1 y z) (b1 x w)
    subst e
    rw [pwS_eq (List.Perm.cons_inv p) a2 b2]
theorem srtS_perm (xs : List Str) : (srtS' xs).Perm xs := List.mergeSort_perm _ _
theorem srtS_pw (xs : List Str) : (srtS' xs).Pairwise (fun a b => leS a b = true) := List.pairwise_mergeSort (le := leS) leS_trans leS_total xs
theorem srtS_eq {ys xs : List Str} (p : ys.Perm xs) (h : sortedS ys = true) : ys = srtS' xs := pwS_eq (p.trans (srtS_perm xs).symm) (sortedS_pw h) (srtS_pw xs)
def rSortDS : List V → Hp → VK → Prop := fun xs H Q => ∃ (a : Addr) (kvs : List (Key × V)) (ks : List Str), xs = [.ref a] ∧ Rd H a (.dK kvs) ∧ kvs.map (·.1) = ks.map Sum.inr ∧ ks.length < 64 ∧
  ∀ ys p, ys.Perm ks → sortedS ys = true → H p = none → Q (.ref p) (upd H p (.lst (ys.map V.str)))
theorem cr_sortedDS {X : Cx} (h : X.calm = true) : CallR X (.builtin "sorted") rSortDS := call_sortedD h
section
variable {α : Type} {K : PySem.W.Frag} {e : α → PyData} {Rs : List Res} {H : Hp} {Q : VK} {p : Addr}
theorem dqAll_strs : ∀ xs : List Str, DqAll K H (xs.map V.str) (xs.map eS)
  | [] => .nil
  | x :: r => .cons (.str x) (dqAll_strs r)
theorem dqAll_ints : ∀ xs : List Int, DqAll K H (xs.map V.int) (xs.map eI)
  | [] => .nil
  | x :: r => .cons (.int x) (dqAll_ints r)
theorem M.ownS {q : Addr} {xs : List Str} (S : M (pt q (.lst (xs.map V.str)) :: Rs) H) : M (acR K q (xs.map eS) :: Rs) H := S.own (EnF.all fun F => dqAll_strs xs)
theorem M.ownI {q : Addr} {xs : List Int} (S : M (pt q (.lst (xs.map V.int)) :: Rs) H) : M (acR K q (xs.map eI) :: Rs) H := S.own (EnF.all fun F => dqAll_ints xs)
theorem v_sortdS {m : List (Str × α)} (S : M Rs H) (j : Nat) (hj : Rs[j]? = some (adR K iS e p m)) (hz : (ks m).length < 64) (k : ∀ q H', M (acR K q ((srtS' (ks m)).map eS) :: Rs) H' → Q (.ref q) H') : rSortDS [.ref p] H Q := by
  obtain ⟨kvs, h, t⟩ := S.gotDk j hj
  refine ⟨p, kvs, ks m, rfl, .inl h, t.keys, hz, fun ys q hp hs hn => ?_⟩
  rw [srtS_eq hp hs]
  exact k q _ (S.new hn).ownS
theorem v_sortdI {m : List (Int × α)} (S : M Rs H) (j : Nat) (hj : Rs[j]? = some (adR K iI e p m)) (hz : (ks m).length < 64) (k : ∀ q H', M (acR K q ((srt (ks m)).map eI) :: Rs) H' → Q (.ref q) H') : rSortDI [.ref p] H Q := by
  obtain ⟨kvs, h, t⟩ := S.gotDk j hj
  exact v_sortDI S h t.keys hz fun q H' S' => k q H' S'.ownI
/-! ### texts -/
def atS (s : Str) (i : Int) : Option Str := if s.length ≤ 100000 then (atI s.cps.toList i).map fun c => ⟨#[c]⟩ else none
theorem v_ixs {s : Str} {i : Int} {c : Str} (h : atS s i = some c) (k : Q (.str c) H) : uIx K (.str s) (.int i) H Q := by
  unfold atS at h
  split at h
  · rename_i hz
    cases e : atI s.cps.toList i with
    | none => rw [e] at h; cases h
    | some n =>
      rw [e] at h
      cases h
      exact .inr (.inr ⟨s, i, n, rfl, rfl, Nat.le_trans hz (by decide), e, k⟩)
  · cases h
def rJoin (K : PySem.W.Frag) : V → List V → Hp → VK → Prop := fun x xs H Q => ∃ a p, ∃ ys : List Str, x = .str a ∧ xs = [.ref p] ∧ (SqL K H p (ys.map V.str) ∨ SqT K H p (ys.map V.str)) ∧ (ys.map (·.length)).sum + ys.length * a.length ≤ 16777216 ∧ Q (.str (Txt.join a ys)) H
theorem g_m1 {r : V → List V → Hp → VK → Prop} {to te : TE} {σ : L2.St} (k : to σ H fun x H1 => (∃ a, x = .str a) ∧ te σ H1 fun y H2 => r x [y] H2 Q) : tM1 r to te σ H Q := k
theorem v_isS {s : Str} {φ : Prop} (k : φ) : (∃ a, V.str s = .str a) ∧ φ := ⟨⟨s, rfl⟩, k⟩
theorem DqAll.strs : ∀ {xs : List Str} {vs : List V}, DqAll K H vs (xs.map eS) → vs = xs.map V.str
  | [], _, h => by cases h; rfl
  | x :: r, _, h => by
    cases h with
    | cons a t => rw [a.strV, DqAll.strs t]; rfl
theorem DqAll.ints : ∀ {xs : List Int} {vs : List V}, DqAll K H vs (xs.map eI) → vs = xs.map V.int
  | [], _, h => by cases h; rfl
  | x :: r, _, h => by
    cases h with
    | cons a t => rw [a.intV, DqAll.ints t]; rfl
theorem Dq.lstS {v : V} {xs : List Str} (d : Dq K H v (eL eS xs)) : ∃ a, v = .ref a ∧ SqL K H a (xs.map V.str) := by
  cases d with
  | lst h q => exact ⟨_, rfl, by rw [← q.strs]; exact h⟩
theorem Dq.lstI {v : V} {xs : List Int} (d : Dq K H v (eL eI xs)) : ∃ a, v = .ref a ∧ SqL K H a (xs.map V.int) := by
  cases d with
  | lst h q => exact ⟨_, rfl, by rw [← q.ints]; exact h⟩
theorem v_join {s : Str} {v : V} {xs : List Str} (d : Dq K H v (eL eS xs)) (hz : (xs.map (·.length)).sum + xs.length * s.length ≤ 16777216) (k : Q (.str (Txt.join s xs)) H) : rJoin K (.str s) [v] H Q := by
  obtain ⟨a, rfl, h⟩ := d.lstS
  exact ⟨s, a, xs, rfl, rfl, .inl h, hz, k⟩
theorem v_addS {s t : Str} (h : s.length + t.length ≤ 100000) (k : Q (.str (s ++ t)) H) : uAdd K (.str s) (.str t) H Q := .inr (.inl ⟨s, t, rfl, rfl, Nat.le_trans h (by decide), k⟩)
theorem v_lenS {s : Str} (h : s.length ≤ 100000) (k : Q (.int (s.length : Nat)) H) : uLen K [.str s] H Q := .inl ⟨_, _, rfl, ⟨Nat.le_trans h (by decide), rfl⟩, k⟩
theorem v_neS {i j : Str} (k : Q (.bl (!decide (i = j))) H) : uNe K (.str i) (.str j) H Q := .inl ⟨rfl, by
  have e : decide (V.str i = V.str j) = decide (i = j) := decide_eq_decide.mpr ⟨fun h => V.str.inj h, fun h => by rw [h]⟩
  rw [e]
  exact k⟩
/-- one sign in a text -/
def inSt (c s : Str) : Option Bool := match c.cps.toList with
  | [n] => some (decide (n ∈ s.cps.toList))
  | _ => none
theorem v_inSt {c s : Str} {b : Bool} (h : inSt c s = some b) (k : Q (.bl b) H) : uIn K (.str c) (.str s) H Q := by
  obtain ⟨⟨l⟩⟩ := c
  unfold inSt at h
  match l, h with
  | [n], h =>
    cases h
    exact .inr (.inr (.inr ⟨_, _, rfl, rfl, by rw [show (⟨⟨[n]⟩⟩ : Str) = ⟨#[n]⟩ from rfl, PySem.StrLaws.found_one s n]; exact k⟩))
theorem v_ninSt {c s : Str} {b : Bool} (h : inSt c s = some b) (k : Q (.bl (!b)) H) : uNotIn K (.str c) (.str s) H Q := by
  obtain ⟨⟨l⟩⟩ := c
  unfold inSt at h
  match l, h with
  | [n], h =>
    cases h
    exact .inr (.inr (.inr ⟨_, _, rfl, rfl, by rw [show (⟨⟨[n]⟩⟩ : Str) = ⟨#[n]⟩ from rfl, PySem.StrLaws.found_one s n]; exact k⟩))
end
end RC

namespace RC
open PySem PySem.Spec PyProof.Rows L2
section
variable {α β : Type} {K : PySem.W.Frag} {σ : L2.St} {H : Hp} {Q : VK} {D : Ends} {Rs : List Res} {ta tb tc te : TE} {tt s : TT} {c1 c2 : Bool} {x y z : V} {p : Addr}
/-- an expression, a test, of which the value is known and that changes nothing -/
def Pu (te : TE) (σ : L2.St) (H : Hp) (x : V) : Prop := ∀ P : VK, P x H → te σ H P
def PuT (tt : TT) (σ : L2.St) (H : Hp) (c : Bool) : Prop := ∀ P : Bool → Hp → Prop, P c H → tt σ H P
theorem g_andP {P : Bool → Hp → Prop} (h1 : PuT tt σ H c1) (h2 : PuT s σ H c2) (k : P (c1 && c2) H) : tAnd tt s σ H P := h1 _ (by
  cases c1 with
  | true => exact h2 _ k
  | false => exact k)
theorem g_orP {P : Bool → Hp → Prop} (h1 : PuT tt σ H c1) (h2 : PuT s σ H c2) (k : P (c1 || c2) H) : tOr tt s σ H P := h1 _ (by
  cases c1 with
  | true => exact k
  | false => exact h2 _ k)
theorem g_andVP (h1 : Pu ta σ H (.bl c1)) (h2 : Pu tb σ H (.bl c2)) (k : Q (.bl (c1 && c2)) H) : tAndV ta tb σ H Q := h1 _ ⟨c1, rfl, by
  cases c1 with
  | true => exact h2 _ k
  | false => exact k⟩
theorem g_orVP (h1 : Pu ta σ H (.bl c1)) (h2 : Pu tb σ H (.bl c2)) (k : Q (.bl (c1 || c2)) H) : tOrV ta tb σ H Q := h1 _ ⟨c1, rfl, by
  cases c1 with
  | true => exact k
  | false => exact h2 _ k⟩
theorem g_chainP {r r' : R2} (ha : Pu ta σ H x) (hb : Pu tb σ H y) (h1 : ∀ P : VK, P (.bl c1) H → r x y H P) (hc : Pu tc σ H z) (h2 : ∀ P : VK, P (.bl c2) H → r' y z H P) (k : Q (.bl (c1 && c2)) H) : tChain r r' ta tb tc σ H Q :=
  ha _ (hb _ (h1 _ ⟨c1, rfl, by
    cases c1 with
    | true => exact hc _ (h2 _ k)
    | false => exact k⟩))
theorem tt_cut {P : Bool → Hp → Prop} {m : (Bool → Prop) → Prop} {KK : Bool → Prop} (hf : jn m KK) (Inv : Hp → Prop) (h1 : ∀ (kk : Bool → Prop) (P' : Bool → Hp → Prop), (∀ c H, kk c → Inv H → P' c H) → m kk → tt σ H P')
    (h2 : ∀ c H, KK c → Inv H → P c H) : tt σ H P := h1 KK P h2 hf
theorem te_cut {m : (Bool → Prop) → Prop} {KK : Bool → Prop} (hf : jn m KK) (Inv : Hp → Prop) (h1 : ∀ (kk : Bool → Prop) (P' : VK), (∀ c H, kk c → Inv H → P' (.bl c) H) → m kk → te σ H P')
    (h2 : ∀ c H, KK c → Inv H → Q (.bl c) H) : te σ H Q := h1 KK Q h2 hf
theorem M.gotO {ds : List PyData} (S : M Rs H) (j : Nat) (hj : Rs[j]? = some (acR K p ds)) : Dq K H (.ref p) (.list ds) := by
  obtain ⟨vs, S1⟩ := (S.at j hj).ex
  exact .lst (SqL.of (S1.sp.got 0 rfl)) (S1.sp.gotAA 1 rfl)
theorem v_revq {e : α → PyData} {v : V} {xs : List α} (S : M Rs H) (j : Nat) (hj : Rs[j]? = some (da K v (eL e xs))) (k : ∀ p H', M (acR K p (xs.reverse.map e) :: Rs) H' → Q (.ref p) H') : RevK K Q v H := by
  obtain ⟨F, L, s, m⟩ := S
  cases EnF.at j hj F L s with
  | lst a q =>
    have hr : ∀ {vs : List V} {ds : List PyData}, DqAll K F vs ds → DqAll K F vs.reverse ds.reverse := by
      intro vs ds h
      induction vs generalizing ds with
      | nil => cases h; exact .nil
      | cons v r ih =>
        cases h with
        | cons a t =>
          rw [List.reverse_cons, List.reverse_cons]
          exact DqAll.snoc a (ih t)
    refine v_rev (⟨F, L, ⟨[], L, rfl, ⟨rfl, hr q⟩, s⟩, m⟩ : M (daA K _ _ :: Rs) H) (m.ex.sqL a) fun p H' S' => k p H' ?_
    obtain ⟨F, L, ⟨l1, l2, rfl, a1, l3, l4, rfl, ⟨rfl, q1⟩, b⟩, m⟩ := S'
    exact ⟨F, _, ⟨l1, l4, rfl, ⟨_, l1, [], by simp, a1, rfl, by rw [List.map_reverse]; exact q1⟩, b⟩, m⟩
/-- == and != of data without dicts -/
abbrev EqOk (d : PyData) : Prop := SeqAt.shaped d = true
theorem EqOk.nodict {d : PyData} (h : EqOk d) : d.hasDict = false := PyData.hasDict_of_canLay d (SeqAt.canLay_of_shaped h)
theorem v_eqq {d e : PyData} (h1 : Dq K H x d) (h2 : Dq K H y e) (s1 : EqOk d) (s2 : EqOk e) (k : Q (.bl (PyData.eqv d e)) H) : uEq K x y H Q := v_eqD (h1.dp s1.nodict) (h2.dp s2.nodict) s1 s2 k
theorem v_neq {d e : PyData} (h1 : Dq K H x d) (h2 : Dq K H y e) (s1 : EqOk d) (s2 : EqOk e) (k : Q (.bl (!PyData.eqv d e)) H) : uNe K x y H Q := v_neD (h1.dp s1.nodict) (h2.dp s2.nodict) s1 s2 k
/-- a, b = a pair -/
theorem M.openP {γ δ : Type} {e : γ → PyData} {f : δ → PyData} {v : V} {q : γ × δ} (S : M Rs H) (j : Nat) (hj : Rs[j]? = some (da K v (eP e f q))) : ∃ a u w, v = .ref a ∧ SqT K H a [u, w] ∧ M (da K u (e q.1) :: da K w (f q.2) :: Rs) H := by
  obtain ⟨F, L, s, m⟩ := S
  cases EnF.at j hj F L s with
  | tup a t =>
    cases t with
    | cons d1 t =>
      cases t with
      | cons d2 t =>
        cases t
        exact ⟨_, _, _, rfl, m.ex.sqT a, F, L, ⟨[], L, rfl, ⟨rfl, d1⟩, [], L, rfl, ⟨rfl, d2⟩, s⟩, m⟩
theorem M.openT3 {γ δ ε : Type} {e : γ → PyData} {f : δ → PyData} {g : ε → PyData} {v : V} {q : γ × δ × ε} (S : M Rs H) (j : Nat) (hj : Rs[j]? = some (da K v (eT3 e f g q))) : ∃ a u w y, v = .ref a ∧ SqT K H a [u, w, y] ∧ M (da K u (e q.1) :: da K w (f q.2.1) :: da K y (g q.2.2) :: Rs) H := by
  obtain ⟨F, L, s, m⟩ := S
  cases EnF.at j hj F L s with
  | tup a t =>
    cases t with
    | cons d1 t =>
      cases t with
      | cons d2 t =>
        cases t with
        | cons d3 t =>
          cases t
          exact ⟨_, _, _, _, rfl, m.ex.sqT a, F, L, ⟨[], L, rfl, ⟨rfl, d1⟩, [], L, rfl, ⟨rfl, d2⟩, [], L, rfl, ⟨rfl, d3⟩, s⟩, m⟩
theorem v_itLe {a : Addr} {xs : List V} {v : V} {R : It → Hp → Prop} (e : v = .ref a) (h : SqL K H a xs) (k : R (Itl K a) H) : ItL K R v H := ⟨a, e, ⟨xs, h⟩, k⟩
/-! a text, sign by sign -/
def strL (s : Str) : List Str := s.cps.toList.map fun c => ⟨#[c]⟩
theorem g_iStr {R : It → Hp → Prop} (k : te σ H fun v H1 => ∃ x, v = .str x ∧ R (Its x) H1) : iStr te σ H R := k
theorem v_itS {s : Str} {R : It → Hp → Prop} (k : R (Its s) H) : ∃ x, V.str s = .str x ∧ R (Its x) H := ⟨s, rfl, k⟩
theorem for_str {F : Str → β → (β → Prop) → Prop} {z : Str} {s0 : β} {KK : β → Prop} {g : TG} {tb : TS} (hf : forD F (strL z) s0 KK) (Inv : β → L2.St → Hp → Prop) (h0 : Inv s0 σ H)
    (hs : ∀ x s σ H (kk : β → Prop), Inv s σ H → F x s kk → g (.str x) σ H fun σ2 H2 => tb ⟨fun σ H => ∃ s', kk s' ∧ Inv s' σ H, D.rt, D.nx, fun σ H => ∃ s', kk s' ∧ Inv s' σ H⟩ σ2 H2)
    (hd : ∀ s σ H, KK s → Inv s σ H → D.nx σ H) : ForW (Its z) g tb D σ H := by
  have hl : (strL z).length = z.cps.size := by simp [strL]
  refine for_W walk_str (fun i σ H => ∃ s, forD F ((strL z).drop i) s KK ∧ Inv s σ H) ⟨s0, by simpa using hf, h0⟩ (fun _ _ _ _ _ => trivial) ?_ ?_
  · rintro i v σ H H' hi ⟨s, hf, h⟩ ⟨rfl, c, hc, rfl⟩
    have hi2 : i < (strL z).length := by rw [hl]; exact hi
    rw [List.drop_eq_getElem_cons hi2] at hf
    have e : (strL z)[i] = ⟨#[c]⟩ := by
      have : (strL z)[i]? = some ⟨#[c]⟩ := by
        unfold strL
        rw [List.getElem?_map, Array.getElem?_toList, hc]
        rfl
      exact Option.some.inj ((List.getElem?_eq_getElem hi2).symm.trans this)
    rw [e] at hf
    exact hs _ s σ H' _ h hf
  · rintro σ H ⟨s, hf, h⟩
    rw [← hl, List.drop_length] at hf
    exact hd s σ H hf h
/-! isinstance -/
theorem sqL_ty {a : Addr} {xs : List V} (h : SqL K H a xs) : TyX K H (.ref a) (.type "list") := by
  rcases h with (h | ⟨o, h⟩) | ⟨o, its, n, h, hc, _⟩
  · exact .base (.lst h)
  · exact .base (.frz h)
  · exact .kList h hc
theorem sqT_ty {a : Addr} {xs : List V} (h : SqT K H a xs) : TyX K H (.ref a) (.type "tuple") := by
  rcases h with (h | ⟨o, h⟩) | ⟨o, its, n, h, hc, _⟩
  · exact .base (.tup h)
  · exact .fTuple h
  · exact .kTuple h hc
def tyN : PyData → String
  | .none => "NoneType"
  | .bool _ => "bool"
  | .int _ => "int"
  | .str _ => "str"
  | .list _ => "list"
  | .tuple _ => "tuple"
  | .dict _ => "dict"
def isA (c : String) (d : PyData) : Bool := decide (tyN d = c) || (decide (tyN d = "bool") && decide (c = "int"))
/-- isinstance of a dict, frozen or not -/
def rIsiD (K : PySem.W.Frag) : List V → Hp → VK → Prop := fun xs H Q => ∃ (a : Addr) (kvs : List (Key × V)) (c : String) (b : Bool), xs = [.ref a, .ty c] ∧ Rd H a (.dK kvs) ∧ PySem.W.kitOne K (.type "dict") (.type c) = some b ∧ Q (.bl b) H
theorem cr_isiD {X : Cx} : CallR X (.builtin "isinstance") (rIsiD X.K) := by
  intro pins s σ H xs us Q I r h
  obtain ⟨a, kvs, c, b, rfl, hr, e, q⟩ := h
  obtain ⟨u1, u2, rfl, r1, r2⟩ := vals2 r
  cases (show u1 = Value.ref a from r1)
  have e2 := (ClsV.ty c).eq r2
  subst e2
  obtain ⟨_, _, vs, _, o, es, ep, h1, h2, _⟩ := dk_rd I.hok hr
  exact PySem.W.kia_one PySem.W.kitx_dict I.kIn ⟨o, h1, h2.1⟩ e (fun z => nomatch z) fun tk => ⟨.bl b, H, I.tok tk, rfl, q⟩
def uIsi (K : PySem.W.Frag) : List V → Hp → VK → Prop := fun xs H Q => rIsi K xs H Q ∨ rIsiD K xs H Q
theorem cr_isiQ {X : Cx} : CallR X (.builtin "isinstance") (uIsi X.K) := call_isi.or cr_isiD
theorem Dn.ty {v : V} {d : PyData} (h : Dn K H v d) : TyX K H v (.type (tyN d)) ∨ (∃ a kvs, v = .ref a ∧ Rd H a (.dK kvs) ∧ tyN d = "dict") := by
  cases h with
  | non => exact .inl (.base .non)
  | bl b => exact .inl (.base (.bl b))
  | int i => exact .inl (.base (.int i))
  | str x => exact .inl (.base (.str x))
  | lst h _ => exact .inl (sqL_ty h)
  | tup h _ => exact .inl (sqT_ty h)
  | dct h _ => exact .inr ⟨_, _, rfl, h, rfl⟩
theorem kit_all : ∀ t ∈ ["NoneType", "bool", "int", "str", "list", "tuple", "dict"], ∀ c ∈ ["int", "bool", "str", "list", "tuple", "dict"], kitB t c = some (decide (t = c) || (decide (t = "bool") && decide (c = "int"))) := by decide +kernel
theorem v_isq {v : V} {d : PyData} {c : String} {b : Bool} (h : Dn K H v d) (hc : c ∈ ["int", "bool", "str", "list", "tuple", "dict"]) (hb : isA c d = b) (k : Q (.bl b) H) : uIsi K [v, .ty c] H Q := by
  subst hb
  have kk := kit_ty (K := K) (kit_all (tyN d) (by cases d <;> simp [tyN]) c hc)
  rcases h.ty with z | ⟨a, kvs, rfl, hr, e⟩
  · exact .inl (v_isi z kk k)
  · rw [e] at kk
    refine .inr ⟨a, kvs, c, _, rfl, hr, kk, ?_⟩
    unfold isA at k
    rw [e] at k
    exact k
theorem M.spN2 {A B : Res} (S : M (sp2 A B :: Rs) H) : M (A :: B :: Rs) H := S.sp
theorem M.spN3 {A B C : Res} (S : M (sp2 A (sp2 B C) :: Rs) H) : M (A :: B :: C :: Rs) H := M.sub (.cons 2 rfl (.refl _)) (S.sp.at 1 rfl).spN2
theorem M.spN4 {A B C E : Res} (S : M (sp2 A (sp2 B (sp2 C E)) :: Rs) H) : M (A :: B :: C :: E :: Rs) H := M.sub (.cons 3 rfl (.refl _)) (S.sp.at 1 rfl).spN3
theorem M.spN5 {A B C E G : Res} (S : M (sp2 A (sp2 B (sp2 C (sp2 E G))) :: Rs) H) : M (A :: B :: C :: E :: G :: Rs) H := M.sub (.cons 4 rfl (.refl _)) (S.sp.at 1 rfl).spN4
theorem M.spM2 {A B : Res} (S : M (A :: B :: Rs) H) : M (sp2 A B :: Rs) H := S.sp'
theorem M.spM3 {A B C : Res} (S : M (A :: B :: C :: Rs) H) : M (sp2 A (sp2 B C) :: Rs) H := ((M.spM2 (M.sub (.cons 1 rfl (.cons 1 rfl (.refl _))) S)).at 1 rfl).sp'
theorem M.spM4 {A B C E : Res} (S : M (A :: B :: C :: E :: Rs) H) : M (sp2 A (sp2 B (sp2 C E)) :: Rs) H := ((M.spM3 (M.sub (.cons 1 rfl (.cons 1 rfl (.cons 1 rfl (.refl _)))) S)).at 1 rfl).sp'
theorem M.spM5 {A B C E G : Res} (S : M (A :: B :: C :: E :: G :: Rs) H) : M (sp2 A (sp2 B (sp2 C (sp2 E G))) :: Rs) H := ((M.spM4 (M.sub (.cons 1 rfl (.cons 1 rfl (.cons 1 rfl (.cons 1 rfl (.refl _))))) S)).at 1 rfl).sp'
end
end RC

namespace RC
open PySem PySem.Spec PyProof.Rows L2
/-! ### lists of numbers, of texts: what they are now is enough -/
structure Fl {α : Type} (e : α → PyData) (sv : α → V) : Prop where
  to : ∀ {K : PySem.W.Frag} {H : Hp} {v : V} {x : α}, Dq K H v (e x) → v = sv x
  of : ∀ (K : PySem.W.Frag) (H : Hp) (x : α), Dq K H (sv x) (e x)
theorem flI : Fl eI V.int := ⟨Dq.intV, fun _ _ x => .int x⟩
theorem flS : Fl eS V.str := ⟨Dq.strV, fun _ _ x => .str x⟩
theorem flB : Fl eB V.bl := ⟨Dq.blV, fun _ _ x => .bl x⟩
/-- a resource by which v is d -/
def Brw (R : Res) (K : PySem.W.Frag) (v : V) (d : PyData) : Prop := ∀ Rs H, M (R :: Rs) H → Dq K H v d
section
variable {α β : Type} {e : α → PyData} {sv : α → V} {K : PySem.W.Frag} {σ : L2.St} {H : Hp} {Q : VK} {D : Ends} {Rs : List Res} {v w : V} {xs ys : List α} {p : Addr}
theorem Brw.da {d : PyData} : Brw (da K v d) K v d := fun _ _ S => S.gotA 0 rfl
theorem Brw.ac {ds : List PyData} : Brw (acR K p ds) K (.ref p) (.list ds) := fun _ _ S => S.gotO 0 rfl
theorem Fl.all (f : Fl e sv) : ∀ {vs : List V} {xs : List α}, DqAll K H vs (xs.map e) → vs = xs.map sv
  | _, [], h => by cases h; rfl
  | _, x :: r, h => by
    cases h with
    | cons a t => rw [f.to a, Fl.all f t]; rfl
theorem Fl.ofA (f : Fl e sv) : ∀ xs : List α, DqAll K H (xs.map sv) (xs.map e)
  | [] => .nil
  | x :: r => .cons (f.of K H x) (Fl.ofA f r)
theorem Fl.lst (f : Fl e sv) (d : Dq K H v (eL e xs)) : ∃ a, v = .ref a ∧ SqL K H a (xs.map sv) := by
  cases d with
  | lst h q => exact ⟨_, rfl, by rw [← f.all q]; exact h⟩
theorem v_ixN (f : Fl e sv) (d : Dq K H v (eL e xs)) {i : Int} {x : α} (hx : atI xs i = some x) (k : Q (sv x) H) : uIx K v (.int i) H Q := by
  obtain ⟨a, rfl, h⟩ := f.lst d
  exact v_ixL h (atI_map hx) k
theorem v_lenN (d : Dq K H v (eL e xs)) (k : Q (.int (xs.length : Nat)) H) : uLen K [v] H Q := by
  cases d with
  | lst h q =>
    have := q.len
    rw [List.length_map] at this
    exact v_lenL h (by rw [this]; exact k)
theorem M.ownF (f : Fl e sv) {q : Addr} (S : M (pt q (.lst (xs.map sv)) :: Rs) H) : M (acR K q (xs.map e) :: Rs) H := S.own (EnF.all fun F => f.ofA xs)
theorem v_liN (f : Fl e sv) (S : M Rs H) (d : Dq K H v (eL e xs)) (k : ∀ p H', M (acR K p (xs.map e) :: Rs) H' → Q (.ref p) H') : rListOf K [v] H Q := by
  obtain ⟨a, rfl, h⟩ := f.lst d
  exact v_list S (.inl h) fun p H' S' => k p H' (S'.ownF f)
theorem cutV_map (f : α → V) (xs : List α) (lo hi : Option Int) : cutV (xs.map f) lo hi = (cutL xs lo hi).map f := cutL_map f xs lo hi
theorem v_slN (f : Fl e sv) (S : M Rs H) (d : Dq K H v (eL e xs)) {lo hi : Option Int} (k : ∀ p H', M (acR K p ((cutL xs lo hi).map e) :: Rs) H' → Q (.ref p) H') : uSl K v lo hi H Q := by
  obtain ⟨a, rfl, h⟩ := f.lst d
  refine v_slL S h fun p H' S' => k p H' ?_
  rw [cutV_map] at S'
  exact S'.ownF f
theorem v_catN (f : Fl e sv) (S : M Rs H) (d : Dq K H v (eL e xs)) (d2 : Dq K H w (eL e ys)) (hz : xs.length + ys.length ≤ 100000) (k : ∀ p H', M (acR K p ((xs ++ ys).map e) :: Rs) H' → Q (.ref p) H') : uAdd K v w H Q := by
  obtain ⟨a, rfl, h⟩ := f.lst d
  obtain ⟨b, rfl, h2⟩ := f.lst d2
  refine v_catS S h h2 (by rw [List.length_map, List.length_map]; exact hz) fun p H' S' => k p H' ?_
  rw [← List.map_append] at S'
  exact S'.ownF f
theorem v_revN (f : Fl e sv) (S : M Rs H) (d : Dq K H v (eL e xs)) (k : ∀ p H', M (acR K p (xs.reverse.map e) :: Rs) H' → Q (.ref p) H') : RevK K Q v H := by
  obtain ⟨a, rfl, h⟩ := f.lst d
  refine v_rev S h fun p H' S' => k p H' ?_
  rw [← List.map_reverse] at S'
  exact S'.ownF f
def ItN (K : PySem.W.Frag) (v : V) (g : TG) (tb : TS) (D : Ends) (σ : L2.St) (H : Hp) : Prop := ItL K (fun J H1 => ForW J g tb D σ H1) v H
theorem for_N (f : Fl e sv) {F : α → β → (β → Prop) → Prop} {s0 : β} {KK : β → Prop} {g : TG} {tb : TS} (hf : forD F xs s0 KK) (Inv : β → L2.St → Hp → Prop) (h0 : Inv s0 σ H)
    (hrd : ∀ s σ H, Inv s σ H → Dq K H v (eL e xs))
    (hs : ∀ x s σ H (kk : β → Prop), Inv s σ H → F x s kk → g (sv x) σ H fun σ2 H2 => tb ⟨fun σ H => ∃ s', kk s' ∧ Inv s' σ H, D.rt, D.nx, fun σ H => ∃ s', kk s' ∧ Inv s' σ H⟩ σ2 H2)
    (hd : ∀ s σ H, KK s → Inv s σ H → D.nx σ H) : ItL K (fun J H1 => ForW J g tb D σ H1) v H := by
  obtain ⟨a, rfl, h⟩ := f.lst (hrd s0 σ H h0)
  have hrd' : ∀ s σ H, Inv s σ H → SqL K H a (xs.map sv) := fun s σ H h => by
    obtain ⟨b, eb, q⟩ := f.lst (hrd s σ H h)
    cases eb
    exact q
  refine v_itL h (for_lst (e := e) hf Inv h0 (fun s σ H h => ⟨hrd' s σ H h, f.ofA xs⟩) (fun i v x s σ H kk h hv hx hF => ?_) hd)
  rw [List.getElem?_map, hx] at hv
  cases hv
  exact hs x s σ H kk h hF
theorem lc_N (f : Fl e sv) {te : TE} {tt : TT} {g : TG} {ws : List Nat} {F : α → (Option β → Prop) → Prop} {e' : β → PyData} {KK : List β → Prop} (hf : xs.length ≤ 100000 ∧ lcD F xs [] KK) (S : M Rs H) (hrd : ∀ H, M Rs H → Dq K H v (eL e xs))
    (hs : ∀ x (acc : List β) E H (kk : Option β → Prop) (N : Hp → Prop), (acc.map e').length < 100000 → M (acR K E (acc.map e') :: Rs) H → F x kk →
      (∀ y H, kk (some y) → M (acR K E (acc.map e' ++ [e' y]) :: Rs) H → N H) → (∀ H, kk none → M (acR K E (acc.map e') :: Rs) H → N H) → g (sv x) (wipe σ ws) H fun σ2 H2 => wipe σ2 ws = wipe σ ws ∧ tt σ2 H2 fun b H3 =>
      if b = true then te σ2 H3 (LcK N E) else N H3)
    (hd : ∀ E (acc : List β) H, KK acc → M (acR K E (acc.map e') :: Rs) H → Q (.ref E) H) : ItL K (fun J H1 => LcW J g tt te ws σ Q H1) v H := by
  obtain ⟨a, rfl, h⟩ := f.lst (hrd H S)
  refine v_itL h (lc_lst (e := e) hf S (fun H S => ⟨?_, f.ofA xs⟩) (fun i v x acc E H kk N hl S hv hx hF k1 k2 => ?_) hd)
  · obtain ⟨b, eb, q⟩ := f.lst (hrd H S)
    cases eb
    exact q
  · rw [List.getElem?_map, hx] at hv
    cases hv
    exact hs x acc E H kk N hl S hF k1 k2
/-! ### dict comprehensions -/
def DcW (J : It) (g : TG) (tt : TT) (tk tv : TE) (vs : List Nat) (σ : L2.St) (Q : VK) (H1 : Hp) : Prop := ∀ D, H1 D = none → ∃ W : Nat → Nat → Hp → Prop, (∃ m, W 0 m (upd H1 D (.dK []))) ∧ ∀ i m H, W i m H →
  (J.stop i H ∧ Q (.ref D) H) ∨ (J.go i H ∧ ∃ Nx : Hp → Prop, (∀ H', Nx H' → ∃ m', m' < m ∧ W (i + 1) m' H') ∧ ∀ x H', J.yld i H x H' → g x (wipe σ vs) H' fun σ2 H2 => wipe σ2 vs = wipe σ vs ∧ tt σ2 H2 fun b H3 =>
    if b = true then tk σ2 H3 fun y H4 => tv σ2 H4 fun z H5 => ∃ kvs k, y = kV k ∧ H5 D = some (.dK kvs) ∧ kvs.length < sizeLine ∧ Nx (upd H5 D (.dK (putK kvs k z))) else Nx H3)
theorem g_dc {wi : TI} {g : TG} {tt : TT} {tk tv : TE} {vs : List Nat} (k : wi σ H fun J H1 => DcW J g tt tk tv vs σ Q H1) : tDc wi g tt tk tv vs σ H Q := k
def DcK (N : Hp → Prop) (D : Addr) (y : V) : VK := fun z H5 => ∃ kvs k, y = kV k ∧ H5 D = some (.dK kvs) ∧ kvs.length < sizeLine ∧ N (upd H5 D (.dK (putK kvs k z)))
def dcD {κ γ δ : Type} [DecidableEq κ] (f : δ → List (κ × γ) → (Option (κ × γ) → Prop) → Prop) : List δ → List (κ × γ) → (List (κ × γ) → Prop) → Prop
  | [], acc, k => k acc
  | x :: xs, acc, k => f x acc fun y => dcD f xs (match y with | none => acc | some q => pk acc q.1 q.2) k
theorem pk_len {κ γ : Type} [DecidableEq κ] (m : List (κ × γ)) (k : κ) (x : γ) : (pk m k x).length ≤ m.length + 1 := by
  unfold pk
  split
  · rw [List.length_map]; omega
  · rw [List.length_append]; exact Nat.le_refl _
theorem dc_N {κ γ : Type} [DecidableEq κ] {ik : κ → Key} (f : Fl e sv) {tk tv : TE} {tt : TT} {g : TG} {ws : List Nat} {F : α → List (κ × γ) → (Option (κ × γ) → Prop) → Prop} {e' : γ → PyData} {KK : List (κ × γ) → Prop} (hf : xs.length ≤ 100000 ∧ dcD F xs [] KK) (S : M Rs H) (hrd : ∀ H, M Rs H → Dq K H v (eL e xs))
    (hs : ∀ x (acc : List (κ × γ)) E H (kk : Option (κ × γ) → Prop) (N : Hp → Prop), acc.length < 100000 → M (adR K ik e' E acc :: Rs) H → F x acc kk →
      (∀ q H, kk (some q) → M (adR K ik e' E (pk acc q.1 q.2) :: Rs) H → N H) → (∀ H, kk none → M (adR K ik e' E acc :: Rs) H → N H) → g (sv x) (wipe σ ws) H fun σ2 H2 => wipe σ2 ws = wipe σ ws ∧ tt σ2 H2 fun b H3 =>
      if b = true then tk σ2 H3 fun y H4 => tv σ2 H4 (DcK N E y) else N H3)
    (hd : ∀ E (acc : List (κ × γ)) H, KK acc → M (adR K ik e' E acc :: Rs) H → Q (.ref E) H) : ItL K (fun J H1 => DcW J g tt tk tv ws σ Q H1) v H := by
  obtain ⟨a, rfl, h⟩ := f.lst (hrd H S)
  refine v_itL h ?_
  obtain ⟨hz, hf⟩ := hf
  intro E hE
  have w := walk_list (K := K) (a := a) (xs := xs.map sv)
  refine ⟨fun i m H => m = xs.length - i ∧ i ≤ xs.length ∧ ∃ acc, dcD F (xs.drop i) acc KK ∧ acc.length ≤ i ∧ M (adR K ik e' E acc :: Rs) H, ⟨_, rfl, Nat.zero_le _, [], by simpa using hf, Nat.le_refl _, ?_⟩, ?_⟩
  · obtain ⟨F, L, s, mm⟩ := S.new (o := .dK []) hE
    obtain ⟨l1, l2, rfl, a1, b1⟩ := s
    exact ⟨F, _, ⟨l1, l2, rfl, ⟨[], l1, [], by simp, a1, rfl, .nil⟩, b1⟩, mm⟩
  · rintro i m H1 ⟨rfl, hi, acc, hf, ha, S1⟩
    have hq : SqL K H1 a (xs.map sv) := by
      obtain ⟨b, eb, q⟩ := f.lst (hrd H1 S1.tl)
      cases eb
      exact q
    rcases Nat.lt_or_ge i xs.length with hlt | hge
    · right
      rw [List.drop_eq_getElem_cons hlt] at hf
      refine ⟨⟨xs.map sv, sv xs[i], hq, by rw [List.getElem?_map, List.getElem?_eq_getElem hlt]; rfl⟩, fun H => ∃ acc, dcD F (xs.drop (i + 1)) acc KK ∧ acc.length ≤ i + 1 ∧ M (adR K ik e' E acc :: Rs) H, fun H' h => ⟨xs.length - (i + 1), by omega, rfl, hlt, h⟩, ?_⟩
      rintro x H' ⟨rfl, hx⟩
      have hx' := hx _ hq
      rw [List.getElem?_map, List.getElem?_eq_getElem hlt] at hx'
      cases hx'
      exact hs _ acc E H' _ _ (by omega) S1 hf (fun q H hk S => ⟨_, hk, Nat.le_trans (pk_len _ _ _) (by omega), S⟩) (fun H hk S => ⟨acc, hk, by omega, S⟩)
    · left
      have e0 : i = xs.length := by omega
      subst e0
      rw [List.drop_length] at hf
      exact ⟨⟨xs.map sv, hq, by rw [List.length_map]; exact Nat.le_refl _⟩, hd E acc H1 hf S1⟩
theorem v_dcS {γ : Type} {e' : γ → PyData} {N : Hp → Prop} {E : Addr} {acc : List (Str × γ)} {n : Str} {x : γ} {y : V} (S : M Rs H) (j : Nat) (hj : Rs[j]? = some (adR K iS e' E acc)) (h : EnF Rs (fun F => Dq K F y (e' x))) (hz : acc.length < 100000)
    (k : ∀ H', M (adR K iS e' E (pk acc n x) :: Rs.eraseIdx j) H' → N H') : DcK N E (.str n) y H := by
  obtain ⟨kvs, h1, h2, S2⟩ := putd_core (k := n) injS S j hj h
  exact ⟨kvs, Sum.inr n, rfl, h1, Nat.lt_of_lt_of_le (by rw [h2]; exact hz) (by decide), k _ S2⟩
theorem v_dcI {γ : Type} {e' : γ → PyData} {N : Hp → Prop} {E : Addr} {acc : List (Int × γ)} {n : Int} {x : γ} {y : V} (S : M Rs H) (j : Nat) (hj : Rs[j]? = some (adR K iI e' E acc)) (h : EnF Rs (fun F => Dq K F y (e' x))) (hz : acc.length < 100000)
    (k : ∀ H', M (adR K iI e' E (pk acc n x) :: Rs.eraseIdx j) H' → N H') : DcK N E (.int n) y H := by
  obtain ⟨kvs, h1, h2, S2⟩ := putd_core (k := n) injI S j hj h
  exact ⟨kvs, Sum.inl n, rfl, h1, Nat.lt_of_lt_of_le (by rw [h2]; exact hz) (by decide), k _ S2⟩
end
end RC

namespace RC
open PySem PySem.Spec PyProof.Rows L2 SeqAt
section
variable {prog : Program} {w : World}
/-- two tuples whose items are equal -/
theorem tupEq (p q : Addr) (xs ys : Array Value) (m k : Nat) (dp dq : Option Addr) (tp tq : Array (Option Value)) (hz : xs.size = ys.size) : MeetsIn prog w (Builtin.«tuple.__eq__» ⟨[.ref p, .ref q], []⟩) (fun A R s => s.heap.get? p = some ⟨.type "tuple", dp, .seq xs m, tp⟩ ∧ s.heap.get? q = some ⟨.type "tuple", dq, .seq ys k, tq⟩ ∧
    (∀ j (i1 : j < xs.size) (i2 : j < ys.size), EqP prog w A.in1 s xs[j] ys[j] true) ∧ R (.ok (.ret (.bool true))) s) := by
  intro A R s hh
  obtain ⟨h0, g0, d0, t0, o0⟩ := s
  obtain ⟨e1, e2, he, hR⟩ := hh
  have sb := AutoSeq1.sub_tuple_tuple
  have hl : (xs.toList.zip ys.toList).length = xs.size := by simp [hz]
  wp_walk using wpAny_loadPart' e1, wpAny_loadPart' e2, wpAny_forIn_list _ (fun r b s' => b.1 = none ∧ s' = ⟨h0, g0, d0, t0, o0⟩ ∧ ∃ i, r = (xs.toList.zip ys.toList).drop i) _
  case turn =>
    rintro ⟨x, y⟩ r b s' ⟨hb, rfl, i, hi⟩
    have lt : i < (xs.toList.zip ys.toList).length := by
      rcases Nat.lt_or_ge i (xs.toList.zip ys.toList).length with z | z
      · exact z
      · rw [List.drop_of_length_le z] at hi
        cases hi
    rw [List.drop_eq_getElem_cons lt] at hi
    obtain ⟨hxy, hr⟩ := List.cons.inj hi
    have i1 : i < xs.size := by omega
    have i2 : i < ys.size := by omega
    have ex : x = xs[i] := by simpa using congrArg Prod.fst hxy
    have ey : y = ys[i] := by simpa using congrArg Prod.snd hxy
    subst ex ey
    refine wpAny_bind (he i i1 i2 _ _ ?_)
    wp_walk
    exact ⟨rfl, rfl, i + 1, hr⟩
  case fin =>
    rintro ⟨b1, b2⟩ s' ⟨hb, rfl, i, hi⟩
    simp only at hb
    subst hb
    wp_walk
    show R (.ok (.ret (.bool (xs.size == ys.size)))) _
    rw [hz]
    simpa using hR
  case h => exact ⟨rfl, rfl, 0, rfl⟩
theorem tupNe (p q : Addr) (xs ys : Array Value) (m k : Nat) (dp dq : Option Addr) (tp tq : Array (Option Value)) (hz : xs.size = ys.size) : MeetsIn prog w (Builtin.«tuple.__ne__» ⟨[.ref p, .ref q], []⟩) (fun A R s => s.heap.get? p = some ⟨.type "tuple", dp, .seq xs m, tp⟩ ∧ s.heap.get? q = some ⟨.type "tuple", dq, .seq ys k, tq⟩ ∧
    (∀ j (i1 : j < xs.size) (i2 : j < ys.size), EqP prog w A.in1 s xs[j] ys[j] true) ∧ R (.ok (.ret (.bool false))) s) := by
  intro A R s hh
  obtain ⟨h0, g0, d0, t0, o0⟩ := s
  obtain ⟨e1, e2, he, hR⟩ := hh
  have sb := AutoSeq1.sub_tuple_tuple
  have hl : (xs.toList.zip ys.toList).length = xs.size := by simp [hz]
  wp_walk using wpAny_loadPart' e1, wpAny_loadPart' e2, wpAny_forIn_list _ (fun r b s' => b.1 = none ∧ s' = ⟨h0, g0, d0, t0, o0⟩ ∧ ∃ i, r = (xs.toList.zip ys.toList).drop i) _
  case turn =>
    rintro ⟨x, y⟩ r b s' ⟨hb, rfl, i, hi⟩
    have lt : i < (xs.toList.zip ys.toList).length := by
      rcases Nat.lt_or_ge i (xs.toList.zip ys.toList).length with z | z
      · exact z
      · rw [List.drop_of_length_le z] at hi
        cases hi
    rw [List.drop_eq_getElem_cons lt] at hi
    obtain ⟨hxy, hr⟩ := List.cons.inj hi
    have i1 : i < xs.size := by omega
    have i2 : i < ys.size := by omega
    have ex : x = xs[i] := by simpa using congrArg Prod.fst hxy
    have ey : y = ys[i] := by simpa using congrArg Prod.snd hxy
    subst ex ey
    refine wpAny_bind (he i i1 i2 _ _ ?_)
    wp_walk
    exact ⟨rfl, rfl, i + 1, hr⟩
  case fin =>
    rintro ⟨b1, b2⟩ s' ⟨hb, rfl, i, hi⟩
    simp only at hb
    subst hb
    wp_walk
    show R (.ok (.ret (.bool (xs.size != ys.size)))) _
    rw [hz]
    simpa using hR
  case h => exact ⟨rfl, rfl, 0, rfl⟩
theorem lstNeLoop (p q : Addr) (xs ys : Array Value) (m k : Nat) (dp dq : Option Addr) (tp tq : Array (Option Value)) (hz : xs.size = ys.size) (c : Nat) : ∀ i : Nat, xs.size - i = c → MeetsIn prog w (Builtin.«list.__eq__.loop» ⟨[.ref p, .ref q, rawInt i, rawInt 3], []⟩) (fun A R s => s.heap.get? p = some ⟨.type "list", dp, .seq xs m, tp⟩ ∧ s.heap.get? q = some ⟨.type "list", dq, .seq ys k, tq⟩ ∧
    (∀ j (i1 : j < xs.size) (i2 : j < ys.size), EqP prog w A.in1 s xs[j] ys[j] true) ∧ R (.ok (.ret (.bool false))) s) := by
  induction c with
  | zero =>
    intro i hc A R s hh
    obtain ⟨h0, g0, d0, t0, o0⟩ := s
    obtain ⟨e1, e2, he, hR⟩ := hh
    wp_walk using wpAny_loadPart' e1, wpAny_loadPart' e2
    have n1 : xs[((i : Nat) : Int).toNat]? = none := by simp; omega
    have n2 : ys[((i : Nat) : Int).toNat]? = none := by simp; omega
    rw [n1, n2]
    wp_walk using wpAny_loadPart' e1, wpAny_loadPart' e2
    show R (.ok (.ret (.bool (xs.size != ys.size)))) _
    rw [hz]
    simpa using hR
  | succ c ih =>
    intro i hc A R s hh
    obtain ⟨h0, g0, d0, t0, o0⟩ := s
    obtain ⟨e1, e2, he, hR⟩ := hh
    wp_walk using wpAny_loadPart' e1, wpAny_loadPart' e2
    have l1 : i < xs.size := by omega
    have l2 : i < ys.size := by omega
    have n1 : xs[((i : Nat) : Int).toNat]? = some xs[i] := by simp [l1]
    have n2 : ys[((i : Nat) : Int).toNat]? = some ys[i] := by simp [l2]
    have nx : ((i : Int) + 1) = ((i + 1 : Nat) : Int) := by push_cast; rfl
    rw [n1, n2]
    refine wpAny_bind (he i l1 l2 _ _ ?_)
    wp_walk
    rw [nx]
    refine ⟨plainId_quiet PySem.MeetsSeq3.plain_eq_loop _, codeAny_builtin PySem.MeetsSeq3.entry_eq_loop ?_⟩
    rw [Around.under_plainId PySem.MeetsSeq3.plain_eq_loop _]
    exact ih (i + 1) (by omega) A R _ ⟨e1, e2, he, hR⟩
theorem lstNe (p q : Addr) (xs ys : Array Value) (m k : Nat) (dp dq : Option Addr) (tp tq : Array (Option Value)) (hz : xs.size = ys.size) : MeetsIn prog w (Builtin.«list.__ne__» ⟨[.ref p, .ref q], []⟩) (fun A R s => s.heap.get? p = some ⟨.type "list", dp, .seq xs m, tp⟩ ∧ s.heap.get? q = some ⟨.type "list", dq, .seq ys k, tq⟩ ∧
    (∀ j (i1 : j < xs.size) (i2 : j < ys.size), EqP prog w A.in1 s xs[j] ys[j] true) ∧ R (.ok (.ret (.bool false))) s) := by
  intro A R s hh
  obtain ⟨h0, g0, d0, t0, o0⟩ := s
  obtain ⟨e1, e2, he, hR⟩ := hh
  have sb := AutoSeq1.sub_list_list
  have ne : ¬ (xs.size != ys.size) = true := by simp [hz]
  wp_walk using wpAny_loadPart' e1, wpAny_loadPart' e2
  refine ⟨plainId_quiet PySem.MeetsSeq3.plain_eq_loop _, codeAny_builtin PySem.MeetsSeq3.entry_eq_loop ?_⟩
  rw [Around.under_plainId PySem.MeetsSeq3.plain_eq_loop _]
  exact lstNeLoop p q xs ys m k dp dq tp tq hz _ 0 rfl A R _ ⟨e1, e2, he, hR⟩
variable {A : Around} {s : Shared} {p q : Addr} {xs ys : Array Value}
theorem rc_tupEq (hp : s.heap.IsTuple p xs) (hq : s.heap.IsTuple q ys) (hz : xs.size = ys.size) (hu : A.units < cLine) (he : ∀ j (i1 : j < xs.size) (i2 : j < ys.size), EqP prog w A.in1 s xs[j] ys[j] true) (E Q : Value → Shared → Prop) (h : Q (.bool true) s) :
    wpAny (model prog w) A (richCompare .Eq (.ref p) (.ref q)) Q E s := by
  obtain ⟨⟨c1, d1, a1, b1⟩, o1, k1, n1, z1⟩ := id hp
  obtain ⟨⟨c2, d2, a2, b2⟩, o2, k2, n2, z2⟩ := id hq
  simp only at k1 z1 k2 z2
  subst k1 z1 k2 z2
  have t1 : s.TypeIs (.ref p) "tuple" := ⟨_, o1, rfl⟩
  have t2 : s.TypeIs (.ref q) "tuple" := ⟨_, o2, rfl⟩
  exact wpAny_richCompare_same_room (op := .Eq) t1 t2 F.slot_tuple_eq (call_meetsIn F.slot_tuple_eq t1 F.entry_tuple_eq (F.args_tuple_eq_2 _ _) (tupEq p q xs ys n1 n2 d1 d2 b1 b2 hz) ⟨o1, o2, he, (fun x => nomatch x), h⟩) hu
theorem rc_tupNe (hp : s.heap.IsTuple p xs) (hq : s.heap.IsTuple q ys) (hz : xs.size = ys.size) (hu : A.units < cLine) (he : ∀ j (i1 : j < xs.size) (i2 : j < ys.size), EqP prog w A.in1 s xs[j] ys[j] true) (E Q : Value → Shared → Prop) (h : Q (.bool false) s) :
    wpAny (model prog w) A (richCompare .NotEq (.ref p) (.ref q)) Q E s := by
  obtain ⟨⟨c1, d1, a1, b1⟩, o1, k1, n1, z1⟩ := id hp
  obtain ⟨⟨c2, d2, a2, b2⟩, o2, k2, n2, z2⟩ := id hq
  simp only at k1 z1 k2 z2
  subst k1 z1 k2 z2
  have t1 : s.TypeIs (.ref p) "tuple" := ⟨_, o1, rfl⟩
  have t2 : s.TypeIs (.ref q) "tuple" := ⟨_, o2, rfl⟩
  exact wpAny_richCompare_same_room (op := .NotEq) t1 t2 F.slot_tuple_ne (call_meetsIn F.slot_tuple_ne t1 F.entry_tuple_ne (F.args_tuple_ne_2 _ _) (tupNe p q xs ys n1 n2 d1 d2 b1 b2 hz) ⟨o1, o2, he, (fun x => nomatch x), h⟩) hu
theorem rc_lstNe (hp : s.heap.IsList p xs) (hq : s.heap.IsList q ys) (hz : xs.size = ys.size) (hu : A.units < cLine) (he : ∀ j (i1 : j < xs.size) (i2 : j < ys.size), EqP prog w A.in1 s xs[j] ys[j] true) (E Q : Value → Shared → Prop) (h : Q (.bool false) s) :
    wpAny (model prog w) A (richCompare .NotEq (.ref p) (.ref q)) Q E s := by
  obtain ⟨⟨c1, d1, a1, b1⟩, o1, k1, n1, z1⟩ := id hp
  obtain ⟨⟨c2, d2, a2, b2⟩, o2, k2, n2, z2⟩ := id hq
  simp only at k1 z1 k2 z2
  subst k1 z1 k2 z2
  have t1 : s.TypeIs (.ref p) "list" := ⟨_, o1, rfl⟩
  have t2 : s.TypeIs (.ref q) "list" := ⟨_, o2, rfl⟩
  exact wpAny_richCompare_same_room (op := .NotEq) t1 t2 F.slot_list_ne (call_meetsIn F.slot_list_ne t1 F.entry_list_ne (F.args_list_ne_2 _ _) (lstNe p q xs ys n1 n2 d1 d2 b1 b2 hz) ⟨o1, o2, he, (fun x => nomatch x), h⟩) hu
end
section
variable {prog : Program} {w : World} {A : Around} {s : Shared} {K : Type} [DecidableEq K] {knd : KeyKind prog w K}
theorem rc_dctNe {a b : Addr} {ka kb : List (K × Value)} {r : Bool} (ha : (a == sysModules) = false) (hb : (b == sysModules) = false) (da : s.heap.DictOf knd a ka) (db : s.heap.DictOf knd b kb) (hu : A.units < cLine) (hits : ka.length = kb.length → PySem.W.KeqHitsP prog w A.in1 s kb ka r)
    (E Q : Value → Shared → Prop) (h : Q (.bool (!(ka.length == kb.length && r))) s) : wpAny (model prog w) A (richCompare .NotEq (.ref a) (.ref b)) Q E s := by
  refine wpAny_richCompare_same_room (op := .NotEq) da.typeIs db.typeIs PySem.F.slot_dict_ne (wpAny_call_entry PySem.F.slot_dict_ne da.typeIs PySem.F.entry_dict_ne ?_ (PySem.F.args_dict_ne_2 _ _)) hu
  show wpAny _ _ (Builtin.Dict.dictSlotArgs "__ne__" ⟨[.ref a, .ref b], []⟩ >>= _) _ _ s
  refine wpAny_bind ?_
  unfold Builtin.Dict.dictSlotArgs
  refine wpAny_bind (wpAny_notOrdered_dict da.typeIs ?_)
  show wpAny _ _ (pure (Value.ref a, Value.ref b)) _ _ s
  refine wpAny_pure ?_
  refine wpAny_bind (wpAny_isInstance (T := "dict") db.typeIs PySem.F.sub_dict_dict ?_)
  rw [if_neg (by decide)]
  refine wpAny_bind (wpAny_pure ?_)
  refine wpAny_bind (wpAny_pure ?_)
  refine wpAny_bind (PySem.W.samePairsP ha hb da db hits ?_)
  refine wpAny_pure ⟨_, rfl, (fun x => nomatch x), ?_⟩
  simpa using h
end
end RC

namespace RC
open PySem PySem.Spec PyProof.Rows L2
/-- where the modules stand, a dict stands -/
def SysD (h : Heap) : Prop := ∃ o es ep, h.get? sysModules = some o ∧ o.data = .dict es ep
def NDX (h : Heap) : Prop := h.NoDigits ∧ SysD h
theorem SysD.keep {h h' : Heap} (x : SysD h) (k : ∀ b o, h.get? b = some o → h'.get? b = some o) : SysD h' := by
  obtain ⟨o, es, ep, a, b⟩ := x
  exact ⟨o, es, ep, k _ _ a, b⟩
theorem SysD.ne {h : Heap} (x : SysD h) {a : Addr} {o : Obj} {vs : Array Value} {n : Nat} (e : h.get? a = some o) (d : o.data = .seq vs n) : a ≠ sysModules := by
  rintro rfl
  obtain ⟨o', es, ep, a1, b1⟩ := x
  rw [e] at a1
  cases a1
  rw [d] at b1
  cases b1
section
variable {X : Cx} {pins : List (Addr × Obj)} {σ : L2.St} {H : Hp} {s : Shared}
theorem key_reads {k : Key} {u : Value} {h : Heap} (hk : keyIs k u = true) : Reads h u (kD k) [] := by
  rcases keyIs_shape hk with ⟨i, t, rfl, rfl⟩ | ⟨x, t, rfl, rfl⟩
  · exact .int i t
  · exact .str x t
mutual
theorem Dn.reads (I : Inv X pins σ H s) (sy : SysD s.heap) : ∀ {v : V} {d : PyData}, Dn X.K H v d → ∀ {u : Value}, RelV v u → ∃ as, Reads s.heap u d as ∧ sysModules ∉ as
  | _, _, .non, _, r => by cases r; exact ⟨_, .none, by simp⟩
  | _, _, .bl b, _, r => by cases r; exact ⟨_, .bool b, by simp⟩
  | _, _, .int i, _, r => by obtain ⟨t, rfl⟩ := r; exact ⟨_, .int i t, by simp⟩
  | _, _, .str x, _, r => by obtain ⟨t, rfl⟩ := r; exact ⟨_, .str x t, by simp⟩
  | _, _, .lst h q, _, r => by
    cases r
    obtain ⟨its, rv, ⟨o, n, ho, hc, _, hd⟩, _⟩ := I.list h
    obtain ⟨as, hr, hn⟩ := DnAll.reads I sy q rv
    refine ⟨_, .list ho hc hd hr, ?_⟩
    intro z
    rcases List.mem_cons.mp z with z | z
    · exact sy.ne ho hd z.symm
    · exact hn z
  | _, _, .tup h q, _, r => by
    cases r
    obtain ⟨its, rv, ⟨o, ho, hc, n, hd⟩, _⟩ := I.tuple h
    obtain ⟨as, hr, hn⟩ := DnAll.reads I sy q rv
    exact ⟨_, .tuple ho hc hd hr, hn⟩
  | _, _, .dct h q, _, r => by
    cases r
    obtain ⟨_, hm, vs, rv, o, es, ep, ho, hx, hd, hk, hp, _⟩ := dk_rd I.hok h
    obtain ⟨as, bs, h1, h2, n1, n2⟩ := DnKv.reads I sy q rv hp
    refine ⟨_, .dict ho hx.1 hd h1 h2, ?_⟩
    intro z
    rcases List.mem_cons.mp z with z | z
    · rw [← z] at hm
      simp at hm
    · rcases List.mem_append.mp z with z | z
      · exact n1 z
      · exact n2 z
theorem DnAll.reads (I : Inv X pins σ H s) (sy : SysD s.heap) : ∀ {vs : List V} {ds : List PyData}, DnAll X.K H vs ds → ∀ {us : List Value}, Vals vs us → ∃ as, ReadsAll s.heap us ds as ∧ sysModules ∉ as
  | _, _, .nil, _, r => by cases r; exact ⟨_, .nil, by simp⟩
  | _, _, .cons h t, _, r => by
    cases r with
    | cons r1 r2 =>
      obtain ⟨as, h1, n1⟩ := Dn.reads I sy h r1
      obtain ⟨bs, h2, n2⟩ := DnAll.reads I sy t r2
      exact ⟨_, .cons h1 h2, by simp [n1, n2]⟩
theorem DnKv.reads (I : Inv X pins σ H s) (sy : SysD s.heap) : ∀ {kvs : List (Key × V)} {ds : List (PyData × PyData)}, DnKv X.K H kvs ds → ∀ {vs : List (Key × Value)} {es : List DictEntry}, KV kvs vs → Pairs (mixKind X.prog X.w) es vs →
    ∃ as bs, ReadsAll s.heap (es.map (·.key)) (ds.map (·.1)) as ∧ ReadsAll s.heap (es.map (·.val)) (ds.map (·.2)) bs ∧ sysModules ∉ as ∧ sysModules ∉ bs
  | _, _, .nil, _, _, r, p => by
    cases r
    cases p
    exact ⟨_, _, .nil, .nil, by simp, by simp⟩
  | _, _, .cons h t, _, _, r, p => by
    cases r with
    | cons r1 r2 =>
      cases p with
      | cons k1 v1 p2 =>
        obtain ⟨e1, e2⟩ := r1
        obtain ⟨as, bs, h1, h2, n1, n2⟩ := DnKv.reads I sy t r2 p2
        rw [← v1] at e2
        obtain ⟨cs, h3, n3⟩ := Dn.reads I sy h e2
        rw [← e1] at k1
        exact ⟨_, _, .cons (key_reads k1) h1, .cons h3 h2, by simpa using n1, by simp [n3, n2]⟩
end
end
section
variable {X : Cx}
theorem SysD.now {pins : List (Addr × Obj)} {σ : L2.St} {H : Hp} {s : Shared} (x : SysD X.base) (I : Inv X pins σ H s) : SysD s.heap := x.keep fun b o e => (I.env0.bs b o e).1
/-- repr of data of any depth -/
def rReprQ (K : PySem.W.Frag) : List V → Hp → VK → Prop := fun xs H Q => ∃ v d, xs = [v] ∧ Dn K H v d ∧ d.showable = true ∧ d.depth ≤ 60 ∧ d.shown.length ≤ sizeLine ∧ Q (.str d.shown) H
theorem cr_reprQ (hy : SysD X.base) (hg : X.A.guards = some []) (hu : X.A.units + 64 < cLine) : CallR X (.builtin "repr") (rReprQ X.K) := by
  intro pins s σ H xs us Q I r h
  obtain ⟨v, d, rfl, hd, hs, hp, hz, q⟩ := h
  obtain ⟨u, rfl, ru⟩ := vals1 r
  obtain ⟨as, rd, ns⟩ := hd.reads I (hy.now I) ru
  cases hd with
  | non =>
    cases (show u = Value.none from ru)
    refine PySem.P.repr_of_none ⟨.str _, H, I.tok _, ⟨_, rfl⟩, ?_⟩
    simpa only [PyData.shown] using q
  | bl b =>
    cases (show u = Value.bool b from ru)
    refine PySem.P.repr_of_bool ⟨.str _, H, I.tok _, ⟨_, rfl⟩, ?_⟩
    simpa only [PyData.shown] using q
  | int i =>
    obtain ⟨t, rfl⟩ := ru
    refine PySem.P.repr_of_int (by simpa [PyData.showable] using hs) ⟨.str _, H, I.tok _, ⟨_, rfl⟩, ?_⟩
    simpa only [PyData.shown] using q
  | str x =>
    obtain ⟨t, rfl⟩ := ru
    refine PySem.P.repr_of_str ⟨.str _, H, I.tok _, ⟨_, rfl⟩, ?_⟩ (by simpa only [PyData.shown] using hz)
    simpa only [PyData.shown] using q
  | lst h1 h2 =>
    cases ru
    exact repr_of_reads' rd hs (fun _ => ns) hg (by omega) (fun _ _ e => e) (fun h' u tk k => ⟨.str _, H, I.kept k, ⟨_, rfl⟩, q⟩) hz
  | tup h1 h2 =>
    cases ru
    exact repr_of_reads' rd hs (fun _ => ns) hg (by omega) (fun _ _ e => e) (fun h' u tk k => ⟨.str _, H, I.kept k, ⟨_, rfl⟩, q⟩) hz
  | dct h1 h2 =>
    cases ru
    exact repr_of_reads' rd hs (fun _ => ns) hg (by omega) (fun _ _ e => e) (fun h' u tk k => ⟨.str _, H, I.kept k, ⟨_, rfl⟩, q⟩) hz
/-! equal data -/
end
/-- one step of being equal: lists, dicts frozen or not -/
def EqQ (K : PySem.W.Frag) (H : Hp) (E : V → V → Prop) (x y : V) : Prop := EqR K H E x y ∨
  (∃ a b ks ls, x = .ref a ∧ y = .ref b ∧ Rd H a (.dK ks) ∧ Rd H b (.dK ls) ∧ ks.length = ls.length ∧ ∀ p ∈ ks, ∃ u, valV ls p.1 = some u ∧ E p.2 u) ∨
  ∃ a b xs ys, x = .ref a ∧ y = .ref b ∧ SqT K H a xs ∧ SqT K H b ys ∧ Paired E xs ys
theorem eqQ_run {X : Cx} {pins : List (Addr × Obj)} {σ : L2.St} {H : Hp} {s : Shared} (I : Inv X pins σ H s) {A : Around} {F : V → V → Prop} (hu : A.units < cLine)
    (ih : ∀ x y v u, F x y → RelV x v → RelV y u → SeqAt.EqP X.prog X.w A.in1 s v u true) {x y : V} {v u : Value} (h : EqQ X.K H F x y) (rx : RelV x v) (ry : RelV y u) (E Q : Value → Shared → Prop) (q : Q (.bool true) s) :
    wpAny (model X.prog X.w) A (richCompare .Eq v u) Q E s := by
  rcases h with h | ⟨a, b, ks, ls, rfl, rfl, ha, hb, hl, hp⟩ | ⟨a, b, xs, ys, rfl, rfl, ha, hb, hp⟩
  · exact eqR_run I hu ih h rx ry E Q q
  · obtain rfl : v = Value.ref a := rx
    obtain rfl : u = Value.ref b := ry
    obtain ⟨_, na, wa, ka, oa⟩ := dk_rd I.hok ha
    obtain ⟨_, nb, wb, kb, ob⟩ := dk_rd I.hok hb
    have hz : wa.length = wb.length := by rw [← ka.length, ← kb.length]; exact hl
    refine PySem.W.rcP_dicts na nb oa ob hu (fun _ => hits_run ih kb ka hp) E Q ?_
    simpa [hz] using q
  · obtain rfl : v = Value.ref a := rx
    obtain rfl : u = Value.ref b := ry
    obtain ⟨us, r1, p1, _⟩ := I.tuple ha
    obtain ⟨ws, r2, p2, _⟩ := I.tuple hb
    have hsz : us.toArray.size = ws.toArray.size := by
      rw [List.size_toArray, List.size_toArray, ← r1.length, ← r2.length]
      exact Paired.length hp
    refine rc_tupEq p1 p2 hsz hu (fun j h1 h2 => ?_) E Q q
    simpa using items_run ih hp r1 r2 j (by simpa using h1) (by simpa using h2)
/-- the same for != -/
theorem neQ_run {X : Cx} {pins : List (Addr × Obj)} {σ : L2.St} {H : Hp} {s : Shared} (I : Inv X pins σ H s) {A : Around} {F : V → V → Prop} (hu : A.units < cLine)
    (ih : ∀ x y v u, F x y → RelV x v → RelV y u → SeqAt.EqP X.prog X.w A.in1 s v u true) {x y : V} {v u : Value} (h : EqQ X.K H F x y) (rx : RelV x v) (ry : RelV y u) (E Q : Value → Shared → Prop) (q : Q (.bool false) s) :
    wpAny (model X.prog X.w) A (richCompare .NotEq v u) Q E s := by
  have dcts : ∀ a b ks ls, x = .ref a → y = .ref b → Rd H a (.dK ks) → Rd H b (.dK ls) → ks.length = ls.length → (∀ p ∈ ks, ∃ u, valV ls p.1 = some u ∧ F p.2 u) → wpAny (model X.prog X.w) A (richCompare .NotEq v u) Q E s := by
    rintro a b ks ls rfl rfl ha hb hl hp
    obtain rfl : v = Value.ref a := rx
    obtain rfl : u = Value.ref b := ry
    obtain ⟨_, na, wa, ka, oa⟩ := dk_rd I.hok ha
    obtain ⟨_, nb, wb, kb, ob⟩ := dk_rd I.hok hb
    have hz : wa.length = wb.length := by rw [← ka.length, ← kb.length]; exact hl
    refine rc_dctNe (r := true) na nb oa ob hu (fun _ => hits_run ih kb ka hp) E Q ?_
    simpa [hz] using q
  rcases h with (⟨a, b, xs, ys, rfl, rfl, ha, hb, hp⟩ | ⟨a, b, ks, ls, e1, e2, ha, hb, hl, hp⟩) | ⟨a, b, ks, ls, e1, e2, ha, hb, hl, hp⟩ | ⟨a, b, xs, ys, rfl, rfl, ha, hb, hp⟩
  · obtain rfl : v = Value.ref a := rx
    obtain rfl : u = Value.ref b := ry
    obtain ⟨us, r1, p1, _⟩ := I.list ha
    obtain ⟨ws, r2, p2, _⟩ := I.list hb
    have hsz : us.toArray.size = ws.toArray.size := by
      rw [List.size_toArray, List.size_toArray, ← r1.length, ← r2.length]
      exact Paired.length hp
    refine rc_lstNe p1.isList p2.isList hsz hu (fun j h1 h2 => ?_) E Q q
    simpa using items_run ih hp r1 r2 j (by simpa using h1) (by simpa using h2)
  · exact dcts a b ks ls e1 e2 (.inl ha) (.inl hb) hl hp
  · exact dcts a b ks ls e1 e2 ha hb hl hp
  · obtain rfl : v = Value.ref a := rx
    obtain rfl : u = Value.ref b := ry
    obtain ⟨us, r1, p1, _⟩ := I.tuple ha
    obtain ⟨ws, r2, p2, _⟩ := I.tuple hb
    have hsz : us.toArray.size = ws.toArray.size := by
      rw [List.size_toArray, List.size_toArray, ← r1.length, ← r2.length]
      exact Paired.length hp
    refine rc_tupNe p1 p2 hsz hu (fun j h1 h2 => ?_) E Q q
    simpa using items_run ih hp r1 r2 j (by simpa using h1) (by simpa using h2)
def EqW (K : PySem.W.Frag) (H : Hp) : Nat → V → V → Prop
  | 0 => fun _ _ => False
  | n + 1 => fun x y => (∃ d, Dp K H x d ∧ Dp K H y d ∧ SeqAt.shaped d = true) ∨ EqQ K H (EqW K H n) x y
theorem shaped_depth {d : PyData} (h : SeqAt.shaped d = true) : d.canLay0 = true ∧ d.depth ≤ 64 := by
  unfold SeqAt.shaped at h
  rw [Bool.and_eq_true] at h
  exact ⟨h.1, of_decide_eq_true h.2⟩
section
variable {X : Cx} {pins : List (Addr × Obj)} {σ : L2.St} {H : Hp} {s : Shared}
theorem eqW_run (I : Inv X pins σ H s) : ∀ (n : Nat) (A : Around), A.units + n + 65 < cLine → ∀ (x y : V) (v u : Value), EqW X.K H n x y → RelV x v → RelV y u → SeqAt.EqP X.prog X.w A s v u true
  | 0, _, _, _, _, _, _, h, _, _ => (show False from h).elim
  | n + 1, A, hu, x, y, v, u, h, rx, ry => by
    rcases h with ⟨d, d1, d2, sh⟩ | h
    · obtain ⟨as, r1⟩ := Dp.reads I d x v d1 rx
      obtain ⟨bs, r2⟩ := Dp.reads I d y u d2 ry
      have hd := shaped_depth sh
      have := SeqAt.eqAt_reads d d A s v u as bs r1 r2 hd.1 hd.1 (by omega)
      rw [SeqAt.eqv_refl d hd.1] at this
      exact this.eqP
    · have step := eqQ_run I (A := A) (by omega) (eqW_run I n A.in1 (by show A.units + 1 + n + 65 < cLine; omega)) h rx ry
      obtain ⟨a, b, rfl, rfl⟩ : ∃ a b, x = .ref a ∧ y = .ref b := by
        rcases h with (⟨a, b, _, _, e1, e2, _⟩ | ⟨a, b, _, _, e1, e2, _⟩) | ⟨a, b, _, _, e1, e2, _⟩ | ⟨a, b, _, _, e1, e2, _⟩
        · exact ⟨a, b, e1, e2⟩
        · exact ⟨a, b, e1, e2⟩
        · exact ⟨a, b, e1, e2⟩
        · exact ⟨a, b, e1, e2⟩
      cases (show v = Value.ref a from rx)
      cases (show u = Value.ref b from ry)
      by_cases e : a = b
      · subst e
        exact (SeqAt.EqAt.same _).eqP
      · exact SeqAt.eqP_refs e step
end
mutual
/-- its dicts have each key once; what is no dict is of the plain shape -/
def dOk : PyData → Prop
  | .list ds => dOkA ds
  | .dict kvs => (kvs.map (·.1)).Nodup ∧ dOkK kvs
  | .tuple ds => dOkA ds
  | .none => True
  | .bool _ => True
  | .int _ => True
  | .str x => SeqAt.shaped (.str x) = true
def dOkA : List PyData → Prop
  | [] => True
  | d :: r => dOk d ∧ dOkA r
def dOkK : List (PyData × PyData) → Prop
  | [] => True
  | p :: r => dOk p.2 ∧ dOkK r
end
section
variable {K : PySem.W.Frag} {H : Hp}
theorem kD_inj {a b : Key} (h : kD a = kD b) : a = b := by
  cases a <;> cases b <;> simp [kD] at h <;> rw [h]
theorem DnKv.key : ∀ {kvs : List (Key × V)} {ds : List (PyData × PyData)}, DnKv K H kvs ds → ds.map (·.1) = (kvs.map (·.1)).map kD
  | _, _, .nil => rfl
  | _, _, .cons h t => by
    have := DnKv.key t
    simp only [List.map_cons] at this ⊢
    rw [this]
theorem nd_of_map {γ δ : Type} (f : γ → δ) : ∀ {l : List γ}, (l.map f).Nodup → l.Nodup
  | [], _ => List.nodup_nil
  | x :: r, h => by
    rw [List.map_cons, List.nodup_cons] at h
    exact List.nodup_cons.mpr ⟨fun z => h.1 (List.mem_map.mpr ⟨x, z, rfl⟩), nd_of_map f h.2⟩
theorem valV_nd : ∀ {ls : List (Key × V)} {i : Nat} {k : Key} {u : V}, (ls.map (·.1)).Nodup → ls[i]? = some (k, u) → valV ls k = some u
  | [], i, k, u, _, h => by simp at h
  | q :: r, 0, k, u, _, h => by
    cases (Option.some.inj (show some q = some (k, u) from h))
    exact valV_pos rfl
  | q :: r, i + 1, k, u, nd, h => by
    have nd' := List.nodup_cons.mp nd
    have h' : r[i]? = some (k, u) := by simpa using h
    rw [valV_neg]
    · exact valV_nd nd'.2 h'
    · intro e
      exact nd'.1 (List.mem_map.mpr ⟨(k, u), List.mem_of_getElem? h', e.symm⟩)
mutual
theorem Dn.eqW : ∀ {x y : V} {d : PyData} {n : Nat}, Dn K H x d → Dn K H y d → dOk d → d.depth < n → EqW K H n x y
  | _, _, _, 0, _, _, _, hn => absurd hn (Nat.not_lt_zero _)
  | _, _, _, n + 1, .non, h, _, _ => by cases h; exact .inl ⟨_, .non, .non, by decide⟩
  | _, _, _, n + 1, .bl b, h, _, _ => by cases h; exact .inl ⟨_, .bl b, .bl b, by cases b <;> decide⟩
  | _, _, _, n + 1, .int i, h, _, _ => by cases h; exact .inl ⟨_, .int i, .int i, rfl⟩
  | _, _, _, n + 1, .str z, h, ok, _ => by cases h; exact .inl ⟨_, .str z, .str z, ok⟩
  | _, _, _, n + 1, .tup a q, h, ok, hn => by
    cases h with
    | tup b q2 => exact .inr (.inr (.inr ⟨_, _, _, _, rfl, rfl, a, b, DnAll.eqW q q2 ok (by simpa [PyData.depth] using hn)⟩))
  | _, _, _, n + 1, .lst a q, h, ok, hn => by
    cases h with
    | lst b q2 => exact .inr (.inl (.inl ⟨_, _, _, _, rfl, rfl, a, b, DnAll.eqW q q2 ok (by simpa [PyData.depth] using hn)⟩))
  | _, _, _, n + 1, .dct (ds := ds) a q, h, ok, hn => by
    cases h with
    | @dct _ kvs2 _ b q2 =>
      have ok' : (ds.map (·.1)).Nodup ∧ dOkK ds := ok
      have hl : PyData.depthKv ds < n := by simpa [PyData.depth] using hn
      obtain ⟨h1, h2⟩ := DnKv.eqW q q2 ok'.2 hl
      refine .inr (.inr (.inl ⟨_, _, _, _, rfl, rfl, a, b, h1, fun p hp => ?_⟩))
      obtain ⟨i, hi⟩ := List.getElem?_of_mem hp
      obtain ⟨u, hu, hw⟩ := h2 i p hi
      refine ⟨u, ?_, hw⟩
      have nd : (kvs2.map (·.1)).Nodup := by
        have := ok'.1
        rw [q2.key] at this
        exact nd_of_map _ this
      exact valV_nd nd hu
theorem DnKv.eqW : ∀ {xs ys : List (Key × V)} {ds : List (PyData × PyData)} {n : Nat}, DnKv K H xs ds → DnKv K H ys ds → dOkK ds → PyData.depthKv ds < n →
    xs.length = ys.length ∧ ∀ (i : Nat) (p : Key × V), xs[i]? = some p → ∃ u, ys[i]? = some (p.1, u) ∧ EqW K H n p.2 u
  | _, _, _, _, .nil, h, _, _ => by
    cases h
    exact ⟨rfl, fun i p h => by simp at h⟩
  | _, _, _, n, .cons (k := k) (d := d) a t, h, ok, hn => by
    generalize hds : ((kD k, d) :: _ : List (PyData × PyData)) = dd at h
    cases h with
    | nil => cases hds
    | cons a2 t2 =>
      injection hds with e1 e2
      injection e1 with e3 e4
      have e5 := kD_inj e3
      subst e5
      subst e4
      subst e2
      have hn' := hn
      simp only [PyData.depthKv] at hn'
      obtain ⟨h1, h2⟩ := DnKv.eqW (n := n) t t2 ok.2 (by omega)
      refine ⟨by rw [List.length_cons, List.length_cons, h1], fun i p hp => ?_⟩
      cases i with
      | zero =>
        cases hp
        exact ⟨_, rfl, Dn.eqW a a2 ok.1 (show d.depth < n by omega)⟩
      | succ i =>
        obtain ⟨u, hu, hw⟩ := h2 i p (by simpa using hp)
        exact ⟨u, by simpa using hu, hw⟩
theorem DnAll.eqW : ∀ {xs ys : List V} {ds : List PyData} {n : Nat}, DnAll K H xs ds → DnAll K H ys ds → dOkA ds → PyData.depthAll ds < n → Paired (EqW K H n) xs ys
  | _, _, _, _, .nil, h, _, _ => by cases h; exact .nil
  | _, _, _, _, .cons a t, h, ok, hn => by
    cases h with
    | cons a2 t2 =>
      have hn' := hn
      simp only [PyData.depthAll] at hn'
      exact .cons (Dn.eqW a a2 ok.1 (by omega)) (DnAll.eqW t t2 ok.2 (by omega))
end
end
section
variable {X : Cx}
def rEqW (K : PySem.W.Frag) : R2 := fun x y H Q => ∃ d, Dn K H x d ∧ Dn K H y d ∧ dOk d ∧ d.depth ≤ 60 ∧ Q (.bl true) H
theorem op_eqW (hu : X.A.units + 128 < cLine) : OpR X (compareOp .Eq) (rEqW X.K) := by
  intro pins s σ H x y v u Q I rx ry h
  obtain ⟨d, d1, d2, ok, hd, q⟩ := h
  have w := Dn.eqW (n := 61) d1 d2 ok (by omega)
  rcases w with ⟨d', e1, e2, sh⟩ | w
  · refine op_eqD (X := X) (by omega) pins s σ H x y v u Q I rx ry ⟨d', d', e1, e2, sh, sh, ?_⟩
    rw [SeqAt.eqv_refl d' (shaped_depth sh).1]
    exact q
  · exact eqQ_run I (A := X.A) (by omega) (eqW_run I 60 X.A.in1 (by show X.A.units + 1 + 60 + 65 < cLine; omega)) w rx ry _ _ ⟨.bl true, H, I, rfl, q⟩
def rNeW (K : PySem.W.Frag) : R2 := fun x y H Q => ∃ d, Dn K H x d ∧ Dn K H y d ∧ dOk d ∧ d.depth ≤ 60 ∧ Q (.bl false) H
theorem op_neW (hu : X.A.units + 128 < cLine) : OpR X (compareOp .NotEq) (rNeW X.K) := by
  intro pins s σ H x y v u Q I rx ry h
  obtain ⟨d, d1, d2, ok, hd, q⟩ := h
  have w := Dn.eqW (n := 61) d1 d2 ok (by omega)
  rcases w with ⟨d', e1, e2, sh⟩ | w
  · refine op_neD (X := X) (by omega) pins s σ H x y v u Q I rx ry ⟨d', d', e1, e2, sh, sh, ?_⟩
    rw [SeqAt.eqv_refl d' (shaped_depth sh).1]
    exact q
  · exact neQ_run I (A := X.A) (by omega) (eqW_run I 60 X.A.in1 (by show X.A.units + 1 + 60 + 65 < cLine; omega)) w rx ry _ _ ⟨.bl false, H, I, rfl, q⟩
def uNeQ (K : PySem.W.Frag) : R2 := fun x y H Q => uNe K x y H Q ∨ rNeW K x y H Q
def uEqQ (K : PySem.W.Frag) : R2 := fun x y H Q => uEq K x y H Q ∨ rEqW K x y H Q
theorem uo_eqQ (hu : X.A.units + 128 < cLine) : OpR X (compareOp .Eq) (uEqQ X.K) := (uo_eq (by omega)).or (op_eqW hu)
theorem uo_neQ (hu : X.A.units + 128 < cLine) : OpR X (compareOp .NotEq) (uNeQ X.K) := (uo_ne (by omega)).or (op_neW hu)
theorem units128 {k : Nat} {A : Around} (hr : Room k A) : A.units + 128 < cLine := by
  have := hr.un
  have := hr.dp
  omega
end
end RC

namespace RC
open PySem PySem.Spec PyProof.Rows L2
section
variable {κ α : Type} {K : PySem.W.Frag} {ik : κ → Key} {e : α → PyData} {m : List (κ × α)} {Rs : List Res} {H : Hp} {Q : VK} {σ : L2.St} {D : Ends} {p : Addr}
theorem M.gotDD (S : M Rs H) (j : Nat) (hj : Rs[j]? = some (adR K ik e p m)) : Dn K H (.ref p) (eD ik e m) := by
  obtain ⟨kvs, h, t⟩ := S.gotDk j hj
  exact .dct (.inl h) t.kv.dn
/-! ### a dict of lists of one's own -/
abbrev OE := Str × Addr × List Int
def olsR (es : List OE) : Res := ⟨fun _ l => l = es.map fun q => (q.2.1, HO.lst (q.2.2.map V.int)), fun _ _ _ _ h => h⟩
def oM (es : List OE) : List (Str × List Int) := es.map fun q => (q.1, q.2.2)
def oK (es : List OE) : List (Key × V) := es.map fun q => (iS q.1, V.ref q.2.1)
def adoR (p : Addr) (m : List (Str × List Int)) : Res := exi fun es => prp (oM es = m) (sp2 (pt p (.dK (oK es))) (olsR es))
variable {es : List OE} {om : List (Str × List Int)}
theorem ado_open (S : M (adoR p om :: Rs) H) : ∃ es, oM es = om ∧ M (pt p (.dK (oK es)) :: olsR es :: Rs) H := by
  obtain ⟨es, S⟩ := S.ex
  obtain ⟨h, S⟩ := S.pr
  exact ⟨es, h, S.sp⟩
theorem ado_close (h : oM es = om) (S : M (pt p (.dK (oK es)) :: olsR es :: Rs) H) : M (adoR p om :: Rs) H := M.ex' es (M.pr' h S.sp')
theorem ado_new (S : M (pt p (.dK []) :: Rs) H) : M (adoR p [] :: Rs) H := by
  refine ado_close (es := []) rfl ?_
  obtain ⟨F, L, ⟨l1, l2, rfl, a, b⟩, mm⟩ := S
  exact ⟨F, _, ⟨l1, l2, rfl, a, [], l2, rfl, rfl, b⟩, mm⟩
theorem ols_take {l1 l2 : List OE} {n : Str} {a : Addr} {ns : List Int} (S : M (olsR (l1 ++ (n, a, ns) :: l2) :: Rs) H) : M (pt a (.lst (ns.map V.int)) :: olsR (l1 ++ l2) :: Rs) H := by
  obtain ⟨F, L, ⟨q1, q2, rfl, rfl, b⟩, mm⟩ := S
  refine (⟨F, _, ⟨[(a, _)], _, rfl, rfl, _, q2, rfl, rfl, b⟩, mm.perm ?_⟩ : M (pt a (.lst (ns.map V.int)) :: olsR (l1 ++ l2) :: Rs) H)
  simp only [List.map_append, List.map_cons, List.cons_append, List.append_assoc, List.nil_append]
  exact List.perm_middle
theorem ols_give {l1 l2 : List OE} {n : Str} {a : Addr} {ns : List Int} (S : M (pt a (.lst (ns.map V.int)) :: olsR (l1 ++ l2) :: Rs) H) : M (olsR (l1 ++ (n, a, ns) :: l2) :: Rs) H := by
  obtain ⟨F, L, ⟨q0, q1, rfl, rfl, q2, q3, rfl, rfl, b⟩, mm⟩ := S
  refine (⟨F, _, ⟨_, q3, rfl, rfl, b⟩, mm.perm ?_⟩ : M (olsR (l1 ++ (n, a, ns) :: l2) :: Rs) H)
  simp only [List.map_append, List.map_cons, List.cons_append, List.append_assoc, List.nil_append]
  exact List.perm_middle.symm
theorem oK_val {n : Str} {ns : List Int} : ∀ {es : List OE}, lk (oM es) n = some ns → ∃ l1 l2 a, es = l1 ++ (n, a, ns) :: l2 ∧ valV (oK es) (iS n) = some (.ref a) ∧ lk (oM l1) n = none
  | [], h => by cases h
  | q :: es, h => by
    have h' : lk ((q.1, q.2.2) :: oM es) n = some ns := h
    rw [lk_cons] at h'
    by_cases z : q.1 = n
    · rw [if_pos z] at h'
      cases h'
      subst z
      exact ⟨[], es, q.2.1, rfl, valV_pos rfl, rfl⟩
    · rw [if_neg z] at h'
      obtain ⟨l1, l2, a, rfl, h2, h3⟩ := oK_val h'
      refine ⟨q :: l1, l2, a, rfl, ?_, ?_⟩
      · show valV ((iS q.1, V.ref q.2.1) :: oK _) (iS n) = _
        rw [valV_neg (fun e => z (injS _ _ e))]
        exact h2
      · show lk ((q.1, q.2.2) :: oM l1) n = none
        rw [lk_cons, if_neg z]
        exact h3
/-- the list of a name, by itself -/
theorem ado_at {n : Str} {ns : List Int} (S : M (adoR p om :: Rs) H) (h : lk om n = some ns) : ∃ l1 l2 a, oM (l1 ++ (n, a, ns) :: l2) = om ∧ lk (oM l1) n = none ∧ valV (oK (l1 ++ (n, a, ns) :: l2)) (iS n) = some (.ref a) ∧
    M (pt p (.dK (oK (l1 ++ (n, a, ns) :: l2))) :: pt a (.lst (ns.map V.int)) :: olsR (l1 ++ l2) :: Rs) H := by
  obtain ⟨es, he, S1⟩ := ado_open S
  rw [← he] at h
  obtain ⟨l1, l2, a, e, h2, h3⟩ := oK_val h
  subst e
  exact ⟨l1, l2, a, he, h3, h2, M.sub (.cons 2 rfl (.refl _)) (ols_take (S1.at 1 rfl))⟩
def upK (n : Str) (f : List Int → List Int) : List (Str × List Int) → List (Str × List Int)
  | [] => []
  | q :: r => if q.1 = n then (q.1, f q.2) :: r else q :: upK n f r
theorem upK_mid {n : Str} {f : List Int → List Int} {ns : List Int} {l2 : List (Str × List Int)} : ∀ {l1 : List (Str × List Int)}, lk l1 n = none → upK n f (l1 ++ (n, ns) :: l2) = l1 ++ (n, f ns) :: l2
  | [], _ => by simp [upK]
  | q :: l1, h => by
    rw [lk_cons] at h
    by_cases z : q.1 = n
    · rw [if_pos z] at h
      cases h
    · rw [if_neg z] at h
      show (if q.1 = n then (q.1, f q.2) :: (l1 ++ (n, ns) :: l2) else q :: upK n f (l1 ++ (n, ns) :: l2)) = _
      rw [if_neg z, upK_mid h]
      rfl
theorem ado_back {n : Str} {ns ms : List Int} {l1 l2 : List OE} {a : Addr} {f : List Int → List Int} (h1 : oM (l1 ++ (n, a, ns) :: l2) = om) (h2 : lk (oM l1) n = none) (hf : f ns = ms)
    (S : M (pt p (.dK (oK (l1 ++ (n, a, ns) :: l2))) :: pt a (.lst (ms.map V.int)) :: olsR (l1 ++ l2) :: Rs) H) : M (adoR p (upK n f om) :: Rs) H := by
  refine ado_close (es := l1 ++ (n, a, ms) :: l2) ?_ ?_
  · rw [← h1]
    unfold oM at *
    rw [List.map_append, List.map_cons, List.map_append, List.map_cons, upK_mid h2, hf]
  · have e : oK (l1 ++ (n, a, ms) :: l2) = oK (l1 ++ (n, a, ns) :: l2) := by
      unfold oK
      rw [List.map_append, List.map_cons, List.map_append, List.map_cons]
    rw [e]
    exact M.sub (.cons 1 rfl (.refl _)) (ols_give (S.at 1 rfl |> M.sub (.cons 0 rfl (.cons 1 rfl (.refl _)))))
/-- d[n].append(x) -/
theorem ado_rd (S : M Rs H) (j : Nat) (hj : Rs[j]? = some (adoR p om)) {n : Str} {ns : List Int} (h : lk om n = some ns) : ∃ kvs a, H p = some (.dK kvs) ∧ valV kvs (iS n) = some (.ref a) ∧ SqL K H a (ns.map V.int) ∧
    ∀ (x : Int) (Q' : VK), ns.length < 100000 → (∀ H', M (adoR p (upK n (fun l => l ++ [x]) om) :: Rs.eraseIdx j) H' → Q' .non H') → rAppend (.ref a) [.int x] H Q' := by
  obtain ⟨l1, l2, a, h1, h2, h3, S1⟩ := ado_at (S.at j hj) h
  refine ⟨_, a, S1.got 0 rfl, h3, SqL.of (S1.got 1 rfl), fun x Q' hz k => ?_⟩
  refine v_app S1 1 rfl (by rw [List.length_map]; exact hz) fun H' S2 => k H' (ado_back (ms := ns ++ [x]) h1 h2 rfl ?_)
  rw [List.map_append]
  exact S2
theorem v_ixO {n : Str} {a : Addr} {kvs : List (Key × V)} (h1 : H p = some (.dK kvs)) (h2 : valV kvs (iS n) = some (.ref a)) (k : Q (.ref a) H) : rIxK (.ref p) (.str n) H Q := v_ixKS h1 h2 k
theorem ado_keys (h : oM es = om) : (oK es).map (·.1) = (ks om).map Sum.inr := by
  subst h
  unfold oK oM ks
  rw [List.map_map, List.map_map, List.map_map]
  rfl
theorem v_sortO (S : M Rs H) (j : Nat) (hj : Rs[j]? = some (adoR p om)) (hz : (ks om).length < 64) (k : ∀ q H', M (acR K q ((srtS' (ks om)).map eS) :: Rs) H' → Q (.ref q) H') : rSortDS [.ref p] H Q := by
  obtain ⟨es, he, S1⟩ := ado_open (S.at j hj)
  refine ⟨p, _, ks om, rfl, .inl (S1.got 0 rfl), ado_keys he, hz, fun ys q hp hs hn => ?_⟩
  rw [srtS_eq hp hs]
  exact k q _ (S.new hn).ownS
/-- d[n] = a list of one's own -/
theorem pk_oM {n : Str} {a : Addr} {ns : List Int} {es : List OE} (h : lk (oM es) n = none) : pk (oM es) n ns = oM (es ++ [(n, a, ns)]) ∧ putK (oK es) (iS n) (.ref a) = oK (es ++ [(n, a, ns)]) := by
  have h1 : ((oM es).any fun p => decide (p.1 = n)) = false := by rw [any_lk, h]; rfl
  have h2 : ((oK es).any fun p => decide (p.1 = iS n)) = false := by
    unfold oK oM at *
    rw [List.any_map] at *
    rw [← h1]
    congr 1
    funext q
    exact decide_eq_decide.mpr ⟨fun z => injS _ _ z, fun z => congrArg iS z⟩
  constructor
  · unfold pk
    rw [h1]
    simp [oM]
  · unfold putK
    rw [h2]
    simp [oK]
theorem v_putO {n : Str} {a : Addr} {ns : List Int} {Q : Hp → Prop} (S : M (pt a (.lst (ns.map V.int)) :: adoR p om :: Rs) H) (h : lk om n = none) (hz : om.length < 100000) (k : ∀ H', M (adoR p (pk om n ns) :: Rs) H' → Q H') : uSet (.ref p) (.str n) (.ref a) H Q := by
  obtain ⟨es, he, S1⟩ := ado_open (S.at 1 rfl)
  subst he
  have hp := pk_oM (a := a) (ns := ns) h
  have hl : (oK es).length < 100000 := by
    have : (oK es).length = (oM es).length := by simp [oK, oM]
    omega
  refine v_putS S1 0 rfl hl fun H' S2 => k H' ?_
  refine ado_close (es := es ++ [(n, a, ns)]) hp.1.symm ?_
  rw [← hp.2]
  have S3 : M (pt a (.lst (ns.map V.int)) :: olsR (es ++ []) :: pt p (.dK (putK (oK es) (iS n) (.ref a))) :: Rs) H' := by
    rw [List.append_nil]
    exact M.sub (.cons 2 rfl (.cons 1 rfl (.cons 0 rfl (.refl _)))) S2
  exact M.sub (.cons 1 rfl (.refl _)) (ols_give S3)
theorem map_off {γ : Type} {l : List (Str × γ)} {n : Str} {x : γ} (h : n ∉ ks l) : l.map (fun p => if p.1 = n then (p.1, x) else p) = l := by
  induction l with
  | nil => rfl
  | cons q l ih =>
    have h1 : q.1 ≠ n := fun z => h (by rw [← z]; exact List.mem_cons_self)
    rw [List.map_cons, if_neg h1, ih fun z => h (List.mem_cons_of_mem _ z)]
theorem pk_at {γ : Type} {l1 l2 : List (Str × γ)} {n : Str} {x y : γ} (h1 : n ∉ ks l1) (h2 : n ∉ ks l2) : pk (l1 ++ (n, y) :: l2) n x = l1 ++ (n, x) :: l2 := by
  unfold pk
  rw [if_pos (by simp), List.map_append, List.map_cons, map_off h1, map_off h2, if_pos rfl]
theorem nd_off {γ : Type} {l1 l2 : List (Str × γ)} {n : Str} {y : γ} (nd : (ks (l1 ++ (n, y) :: l2)).Nodup) : n ∉ ks l1 ∧ n ∉ ks l2 := by
  unfold ks at *
  rw [List.map_append, List.map_cons, List.nodup_append] at nd
  obtain ⟨_, h2, h3⟩ := nd
  exact ⟨fun z => h3 n z n List.mem_cons_self rfl, (List.nodup_cons.mp h2).1⟩
theorem oK_at {l1 l2 : List OE} {n : Str} {a b : Addr} {ns ms : List Int} (h1 : n ∉ ks (oM l1)) (h2 : n ∉ ks (oM l2)) : putK (oK (l1 ++ (n, a, ns) :: l2)) (iS n) (.ref b) = oK (l1 ++ (n, b, ms) :: l2) := by
  have off : ∀ {l : List OE}, n ∉ ks (oM l) → (oK l).map (fun kv => if kv.1 = iS n then (kv.1, V.ref b) else kv) = oK l := by
    intro l h
    induction l with
    | nil => rfl
    | cons q l ih =>
      have z1 : q.1 ≠ n := fun z => h (by rw [← z]; exact List.mem_cons_self)
      have z2 : ¬ iS q.1 = iS n := fun z => z1 (injS _ _ z)
      show (if iS q.1 = iS n then _ else _) :: _ = _
      rw [if_neg z2]
      exact congrArg _ (ih fun z => h (List.mem_cons_of_mem _ z))
  unfold putK
  rw [if_pos (by simp [oK])]
  have e1 : oK (l1 ++ (n, a, ns) :: l2) = oK l1 ++ (iS n, .ref a) :: oK l2 := by simp [oK]
  have e2 : oK (l1 ++ (n, b, ms) :: l2) = oK l1 ++ (iS n, .ref b) :: oK l2 := by simp [oK]
  rw [e1, e2, List.map_append, List.map_cons, off h1, off h2, if_pos rfl]
theorem v_putO2 {n : Str} {a : Addr} {ns : List Int} {Q : Hp → Prop} (S : M (pt a (.lst (ns.map V.int)) :: adoR p om :: Rs) H) (nd : (ks om).Nodup) (hz : om.length < 100000) (k : ∀ H', M (adoR p (pk om n ns) :: Rs) H' → Q H') : uSet (.ref p) (.str n) (.ref a) H Q := by
  cases h : lk om n with
  | none => exact v_putO S h hz k
  | some ms =>
    obtain ⟨es, he, S1⟩ := ado_open (S.at 1 rfl)
    subst he
    obtain ⟨l1, l2, b, e, h2, h3⟩ := oK_val h
    subst e
    have e0 : oM (l1 ++ (n, b, ms) :: l2) = oM l1 ++ (n, ms) :: oM l2 := by simp [oM]
    rw [e0] at nd
    obtain ⟨n1, n2⟩ := nd_off nd
    have hl : (oK (l1 ++ (n, b, ms) :: l2)).length < 100000 := by
      have : (oK (l1 ++ (n, b, ms) :: l2)).length = (oM (l1 ++ (n, b, ms) :: l2)).length := by simp [oK, oM]
      omega
    refine v_putS S1 0 rfl hl fun H' S2 => k H' ?_
    refine ado_close (es := l1 ++ (n, a, ns) :: l2) ?_ ?_
    · rw [e0, pk_at n1 n2]
      simp [oM]
    · rw [← oK_at (a := b) (ns := ms) n1 n2]
      have S3 := ols_take (S2.at 1 rfl)
      exact M.sub (.cons 1 rfl (.refl _)) (ols_give (n := n) (M.sub (.cons 3 rfl (.cons 1 rfl (.cons 1 rfl (.tl (.refl _))))) S3))
/-- its lists are data from now on -/
theorem ado_ad (S : M (adoR p om :: Rs) H) : M (adR K iS (eL eI) p om :: Rs) H := by
  obtain ⟨es, he, S1⟩ := ado_open S
  subst he
  have go : ∀ (es2 : List OE) {Rs : List Res}, M (olsR es2 :: Rs) H → M (tkR K iS (eL eI) (oK es2) (oM es2) :: Rs) H := by
    intro es2
    induction es2 with
    | nil =>
      intro Rs S
      obtain ⟨F, L, ⟨l1, l2, rfl, h1, b⟩, mm⟩ := S
      exact ⟨F, l2, ⟨[], l2, rfl, ⟨rfl, .nil⟩, b⟩, mm.perm (by rw [show l1 = [] from h1]; exact .refl _)⟩
    | cons q r ih =>
      intro Rs S
      obtain ⟨n, a, ns⟩ := q
      have S2 := ols_take (l1 := []) S
      have S3 := ih (S2.at 1 rfl |> M.sub (.cons 0 rfl (.cons 0 rfl (.refl _))))
      have S4 := (S3.at 1 rfl).fix
      obtain ⟨F, L, ⟨l1, l2, rfl, ⟨rfl, fp⟩, l3, l4, rfl, ⟨rfl, t⟩, b⟩, mm⟩ := S4
      exact ⟨F, l4, ⟨[], l4, rfl, ⟨rfl, .cons (.lst (.inl (.inl fp)) (dqAll_ints ns)) t⟩, b⟩, mm⟩
  have S2 := go es (S1.at 1 rfl |> M.sub (.cons 0 rfl (.cons 0 rfl (.refl _))))
  exact adR_close (S2.at 1 rfl)
theorem v_lenO (S : M Rs H) (j : Nat) (hj : Rs[j]? = some (adoR p om)) (k : Q (.int (om.length : Nat)) H) : uLen K [.ref p] H Q := by
  obtain ⟨es, he, S1⟩ := ado_open (S.at j hj)
  refine v_lenD (S1.got 0 rfl) ?_
  rw [show (oK es).length = om.length from by rw [← he]; simp [oK, oM]]
  exact k
theorem acR_pt {a : Addr} {ns : List Int} (S : M (acR K a (ns.map eI) :: Rs) H) : M (pt a (.lst (ns.map V.int)) :: Rs) H := by
  obtain ⟨vs, S1⟩ := S.ex
  have S2 := S1.sp
  have h := (S2.gotAA 1 rfl).ints
  subst h
  exact M.sub (.cons 0 rfl (.tl (.refl _))) S2
theorem dc_G {β κ γ : Type} [DecidableEq κ] {e : β → PyData} {sv : β → V} {xs : List β} {v : V} (f : Fl e sv) (AR : Addr → List (κ × γ) → Res) (hnew : ∀ E H, M (pt E (.dK []) :: Rs) H → M (AR E [] :: Rs) H) {tk tv : TE} {tt : TT} {g : TG} {ws : List Nat} {F : β → List (κ × γ) → (Option (κ × γ) → Prop) → Prop} {KK : List (κ × γ) → Prop} (hf : xs.length ≤ 100000 ∧ dcD F xs [] KK) (S : M Rs H) (hrd : ∀ H, M Rs H → Dq K H v (eL e xs))
    (hs : ∀ x (acc : List (κ × γ)) E H (kk : Option (κ × γ) → Prop) (N : Hp → Prop), acc.length < 100000 → M (AR E acc :: Rs) H → F x acc kk →
      (∀ q H, kk (some q) → M (AR E (pk acc q.1 q.2) :: Rs) H → N H) → (∀ H, kk none → M (AR E acc :: Rs) H → N H) → g (sv x) (wipe σ ws) H fun σ2 H2 => wipe σ2 ws = wipe σ ws ∧ tt σ2 H2 fun b H3 =>
      if b = true then tk σ2 H3 fun y H4 => tv σ2 H4 (DcK N E y) else N H3)
    (hd : ∀ E (acc : List (κ × γ)) H, KK acc → M (AR E acc :: Rs) H → Q (.ref E) H) : ItL K (fun J H1 => DcW J g tt tk tv ws σ Q H1) v H := by
  obtain ⟨a, rfl, h⟩ := f.lst (hrd H S)
  refine v_itL h ?_
  obtain ⟨hz, hf⟩ := hf
  intro E hE
  refine ⟨fun i m H => m = xs.length - i ∧ i ≤ xs.length ∧ ∃ acc, dcD F (xs.drop i) acc KK ∧ acc.length ≤ i ∧ M (AR E acc :: Rs) H, ⟨_, rfl, Nat.zero_le _, [], by simpa using hf, Nat.le_refl _, hnew E _ (S.new hE)⟩, ?_⟩
  rintro i m H1 ⟨rfl, hi, acc, hf, ha, S1⟩
  have hq : SqL K H1 a (xs.map sv) := by
    obtain ⟨b, eb, q⟩ := f.lst (hrd H1 S1.tl)
    cases eb
    exact q
  rcases Nat.lt_or_ge i xs.length with hlt | hge
  · right
    rw [List.drop_eq_getElem_cons hlt] at hf
    refine ⟨⟨xs.map sv, sv xs[i], hq, by rw [List.getElem?_map, List.getElem?_eq_getElem hlt]; rfl⟩, fun H => ∃ acc, dcD F (xs.drop (i + 1)) acc KK ∧ acc.length ≤ i + 1 ∧ M (AR E acc :: Rs) H, fun H' h => ⟨xs.length - (i + 1), by omega, rfl, hlt, h⟩, ?_⟩
    rintro x H' ⟨rfl, hx⟩
    have hx' := hx _ hq
    rw [List.getElem?_map, List.getElem?_eq_getElem hlt] at hx'
    cases hx'
    exact hs _ acc E H' _ _ (by omega) S1 hf (fun q H hk S => ⟨_, hk, Nat.le_trans (pk_len _ _ _) (by omega), S⟩) (fun H hk S => ⟨acc, hk, by omega, S⟩)
  · left
    have e0 : i = xs.length := by omega
    subst e0
    rw [List.drop_length] at hf
    exact ⟨⟨xs.map sv, hq, by rw [List.length_map]; exact Nat.le_refl _⟩, hd E acc H1 hf S1⟩
theorem v_dcO {N : Hp → Prop} {n : Str} {a : Addr} {ns : List Int} (S : M (acR K a (ns.map eI) :: adoR p om :: Rs) H) (h : lk om n = none) (hz : om.length < 100000) (k : ∀ H', M (adoR p (pk om n ns) :: Rs) H' → N H') : DcK N p (.str n) (.ref a) H := by
  have q := v_putO (Q := N) (acR_pt S) h hz k
  rcases q with ⟨_, _, _, _, _, hx, _⟩ | ⟨p', H', hp, hd, hq⟩
  · cases hx
  · cases hp
    rcases hd with ⟨kvs, k', h1, h2, h3, rfl⟩ | ⟨kvs, k', b, h1, h2, _⟩
    · exact ⟨kvs, k', h2, h1, h3, hq⟩
    · cases h2
/-! ### dict(pairs) -/
def rDictP (K : PySem.W.Frag) : List V → Hp → VK → Prop := fun xs H Q => ∃ (a : Addr) (ps : List Addr) (kvs : List (Key × V)), xs = [.ref a] ∧ SqL K H a (ps.map V.ref) ∧ Paired (fun p kv => SqT K H p [kV kv.1, kv.2]) ps kvs ∧ ∀ p, H p = none → Q (.ref p) (upd H p (.dK (mergeK [] kvs)))
theorem cr_dictP {X : Cx} (h : X.calm = true) : CallR X (.type "dict") (rDictP X.K) := call_dictP h
def dOf {κ γ : Type} [DecidableEq κ] (ps : List (κ × γ)) : List (κ × γ) := ps.foldl (fun acc q => pk acc q.1 q.2) []
theorem v_dictp {e : α → PyData} {v : V} {ps : List (Str × α)} (S : M Rs H) (j : Nat) (hj : Rs[j]? = some (da K v (eL (eP eS e) ps))) (k : ∀ p H', M (adR K iS e p (dOf ps) :: Rs) H' → Q (.ref p) H') : rDictP K [v] H Q := by
  obtain ⟨F, L, s, mm⟩ := S
  cases EnF.at j hj F L s with
  | @lst a vs _ hs q =>
    have key : ∀ {ps : List (Str × α)} {vs : List V}, DqAll K F vs (ps.map (eP eS e)) → ∃ as kvs, vs = as.map V.ref ∧ Paired (fun p (kv : Key × V) => SqT K F p [kV kv.1, kv.2]) as kvs ∧ TKv K F iS e kvs ps := by
      intro ps
      induction ps with
      | nil =>
        intro vs h
        cases h
        exact ⟨[], [], rfl, .nil, .nil⟩
      | cons q ps ih =>
        intro vs h
        cases h with
        | cons d t =>
          obtain ⟨as, kvs, rfl, h2, h3⟩ := ih t
          cases d with
          | @tup b ws _ hb ht =>
            cases ht with
            | cons d1 t1 =>
              cases t1 with
              | cons d2 t2 =>
                cases t2
                have e1 := d1.strV
                subst e1
                exact ⟨b :: as, (iS q.1, _) :: kvs, rfl, .cons hb h2, .cons d2 h3⟩
    obtain ⟨as, kvs, rfl, h2, h3⟩ := key q
    refine ⟨a, as, kvs, rfl, mm.ex.sqL hs, Paired.mapP h2 fun p kv z => mm.ex.sqT z, fun p hp => k p _ ?_⟩
    have mg : ∀ {ps : List (Str × α)} {kvs acc : List (Key × V)} {ac : List (Str × α)}, TKv K F iS e kvs ps → TKv K F iS e acc ac → TKv K F iS e (mergeK acc kvs) (ps.foldl (fun acc q => pk acc q.1 q.2) ac) := by
      intro ps
      induction ps with
      | nil =>
        intro kvs acc ac h1 h2
        cases h1
        exact h2
      | cons q ps ih =>
        intro kvs acc ac h1 h2
        cases h1 with
        | @cons k' _ _ _ _ d t =>
          have z := ih t (h2.put (k := k') injS d)
          exact z
    have S0 : M (tkR K iS e (mergeK [] kvs) (dOf ps) :: Rs) H := ⟨F, L, ⟨[], L, rfl, ⟨rfl, mg h3 .nil⟩, s⟩, mm⟩
    exact adR_close (S0.new hp)
end
section
variable {α β : Type} {K : PySem.W.Frag} {e : α → PyData} {Rs : List Res} {H : Hp} {Q : VK} {σ : L2.St} {D : Ends} {p : Addr}
/-- a dict that is walked -/
def adL {κ : Type} (K : PySem.W.Frag) (ik : κ → Key) (e : α → PyData) (p : Addr) (od : Obj) (kvs : List (Key × V)) (m : List (κ × α)) : Res := sp2 (pt p (.frz od (.dK kvs))) (tkR K ik e kvs m)
theorem v_ixlS {m : List (Str × α)} {n : Str} {x : α} {od : Obj} {kvs : List (Key × V)} (S : M Rs H) (j : Nat) (hj : Rs[j]? = some (adL K iS e p od kvs m)) (hx : lk m n = some x) (k : ∀ u, M (da K u (e x) :: Rs) H → Q u H) : rIxK (.ref p) (.str n) H Q := by
  have S1 := (S.at j hj).sp
  obtain ⟨F, L, ⟨l1, l2, rfl, a, l3, l4, rfl, ⟨rfl, t⟩, b⟩, mm⟩ := id S1
  obtain ⟨v, h1, h2⟩ := t.some injS hx
  refine ⟨p, v, rfl, .inl ⟨kvs, Sum.inr n, .inr ⟨od, S1.got 0 rfl⟩, rfl, h1.symm⟩, k v ?_⟩
  have b' : Sat F (adL K iS e p od kvs m :: Rs.eraseIdx j) (l1 ++ l4) := ⟨l1, l4, rfl, ⟨l1, [], by simp, a, rfl, t⟩, b⟩
  obtain ⟨L', pp, sat⟩ := b'.perm (perm_at j hj).symm
  exact ⟨F, L', ⟨[], L', rfl, ⟨rfl, h2⟩, sat⟩, mm.perm (by simpa using pp)⟩
theorem tkv_get {κ : Type} {ik : κ → Key} : ∀ {kvs : List (Key × V)} {m : List (κ × α)}, TKv K H ik e kvs m → ∀ {i : Nat} {k : Key} {v : V}, kvs[i]? = some (k, v) → ∃ q, (ks m)[i]? = some q ∧ k = ik q
  | _, _, .nil, i, k, v, h => by simp at h
  | _, _, .cons h t, 0, k, v, g => by
    cases (Option.some.inj (show some _ = some (k, v) from g))
    exact ⟨_, rfl, rfl⟩
  | _, _, .cons h t, i + 1, k, v, g => by
    obtain ⟨q, a, b⟩ := tkv_get t (i := i) (k := k) (v := v) (by simpa using g)
    exact ⟨q, by simpa [ks] using a, b⟩
theorem lc_keysS {te : TE} {tt : TT} {g : TG} {ws : List Nat} {m : List (Str × α)} {F : Str → (Option β → Prop) → Prop} {e' : β → PyData} {KK : List β → Prop} {i : Nat} (hf : (ks m).length ≤ 100000 ∧ lcD F (ks m) [] KK) (S : M Rs H) (j : Nat) (hj : Rs[j]? = some (adR K iS e p m)) (hi : σ[i]? = some (some (.ref p)))
    (hs : ∀ od kvs x (acc : List β) E H (kk : Option β → Prop) (N : Hp → Prop), (acc.map e').length < 100000 → M (acR K E (acc.map e') :: adL K iS e p od kvs m :: Rs.eraseIdx j) H → F x kk →
      (∀ y H, kk (some y) → M (acR K E (acc.map e' ++ [e' y]) :: adL K iS e p od kvs m :: Rs.eraseIdx j) H → N H) → (∀ H, kk none → M (acR K E (acc.map e') :: adL K iS e p od kvs m :: Rs.eraseIdx j) H → N H) → g (.str x) (wipe σ ws) H fun σ2 H2 => wipe σ2 ws = wipe σ ws ∧ tt σ2 H2 fun b H3 =>
      if b = true then te σ2 H3 (LcK N E) else N H3)
    (hd : ∀ E (acc : List β) H, KK acc → M (acR K E (acc.map e') :: adR K iS e p m :: Rs.eraseIdx j) H → Q (.ref E) H) : tLockE (tLc (iKeys (tVar i)) g tt te ws) σ H Q := by
  obtain ⟨hz, hf⟩ := hf
  obtain ⟨kvs, S1⟩ := adR_open S j hj
  refine ⟨p, .dK kvs, S1.got 0 rfl, trivial, fun od => ?_⟩
  have S2 : M (pt p (.frz od (.dK kvs)) :: tkR K iS e kvs m :: Rs.eraseIdx j) (upd H p (.frz od (.dK kvs))) := S1.putAt 0 rfl
  refine ⟨.ref p, hi, p, od, rfl, .inl ⟨kvs, S2.got 0 rfl, ?_⟩⟩
  have S3 : M (adL K iS e p od kvs m :: Rs.eraseIdx j) (upd H p (.frz od (.dK kvs))) := S2.sp'
  have hl : kvs.length = (ks m).length := by
    rw [(S2.gotT 1 rfl).len]
    simp [ks]
  show LcW (Itk p od kvs) g tt te ws σ (fun v H' => H' p = some (.frz od (.dK kvs)) ∧ Q v (upd H' p (.dK kvs))) _
  refine lc_X walk_keys (fun E n H => ∃ acc, lcD F ((ks m).drop n) acc KK ∧ acc.length ≤ n ∧ M (acR K E (acc.map e') :: adL K iS e p od kvs m :: Rs.eraseIdx j) H) (fun E hE => ⟨[], by simpa using hf, Nat.le_refl _, acR_nil (S3.new hE)⟩) (fun E n H _ ⟨acc, _, _, S⟩ => (S.at 1 rfl).sp.got 0 rfl) ?_ ?_
  · rintro E n v H H' hn ⟨acc, hf, ha, S⟩ ⟨rfl, k, u, hk, rfl⟩
    obtain ⟨q, hq, rfl⟩ := tkv_get ((S.at 1 rfl).sp.gotT 1 rfl) hk
    have hn2 : n < (ks m).length := by omega
    rw [List.drop_eq_getElem_cons hn2] at hf
    rw [List.getElem?_eq_getElem hn2] at hq
    cases hq
    refine hs od kvs _ acc E H' _ _ (by rw [List.length_map]; omega) S hf (fun y H hk S => ⟨acc ++ [y], hk, by rw [List.length_append]; simpa using ha, by rw [List.map_append]; exact S⟩) (fun H hk S => ⟨acc, ?_, by omega, S⟩)
    simpa using hk
  · rintro E H ⟨acc, hf, ha, S⟩
    rw [hl, List.drop_length] at hf
    have S4 := (S.at 1 rfl).sp
    refine ⟨S4.got 0 rfl, hd E acc _ hf ?_⟩
    have S5 : M (pt p (.dK kvs) :: tkR K iS e kvs m :: acR K E (acc.map e') :: Rs.eraseIdx j) (upd H p (.dK kvs)) := S4.putAt 0 rfl
    exact M.sub (.cons 1 rfl (.refl _)) (adR_close S5)
end
def jn2 {β γ : Type} (m : (β → γ → Prop) → Prop) (k : β → γ → Prop) : Prop := m k
theorem tt_cutM {β : Type} {tt : TT} {σ : L2.St} {H : Hp} {P : Bool → Hp → Prop} {m : (Bool → β → Prop) → Prop} {KK : Bool → β → Prop} (hf : jn2 m KK) (Inv : β → Hp → Prop) (h1 : ∀ (kk : Bool → β → Prop) (P' : Bool → Hp → Prop), (∀ c s H, kk c s → Inv s H → P' c H) → m kk → tt σ H P')
    (h2 : ∀ c s H, KK c s → Inv s H → P c H) : tt σ H P := h1 KK P h2 hf
theorem te_cutM {β : Type} {te : TE} {σ : L2.St} {H : Hp} {Q : VK} {m : (Bool → β → Prop) → Prop} {KK : Bool → β → Prop} (hf : jn2 m KK) (Inv : β → Hp → Prop) (h1 : ∀ (kk : Bool → β → Prop) (P' : VK), (∀ c s H, kk c s → Inv s H → P' (.bl c) H) → m kk → te σ H P')
    (h2 : ∀ c s H, KK c s → Inv s H → Q (.bl c) H) : te σ H Q := h1 KK Q h2 hf
theorem Dn.by_ {K : PySem.W.Frag} {H : Hp} {v : V} {d e : PyData} (h : d = e) (q : Dn K H v e) : Dn K H v d := h ▸ q
theorem v_lenLI {K : PySem.W.Frag} {H : Hp} {Q : VK} {a : Addr} {ns : List Int} (h : SqL K H a (ns.map V.int)) (k : Q (.int (ns.length : Nat)) H) : uLen K [.ref a] H Q := v_lenL h (by rw [List.length_map]; exact k)
/-! ### alike -/
structure AlkOk (d : PyData) : Prop where
  ok : dOk d
  sh : d.showable = true
  dp : d.depth ≤ 60
  ln : d.shown.length ≤ sizeLine
/-- data of small size, dicts too -/
structure ShQ (dp bk : Nat) (d : PyData) : Prop where
  ok : dOk d
  sh : d.showable = true
  lf : d.leavesShort 400 = true
  dp : d.depth ≤ dp
  bk : d.bulk ≤ bk
theorem ShQ.alk {dp bk : Nat} {d : PyData} (h : ShQ dp bk d) (h1 : dp ≤ 60) (h2 : bk ≤ 40000) : AlkOk d := by
  refine ⟨h.ok, h.sh, Nat.le_trans h.dp h1, ?_⟩
  have z := PyData.shown_le_bulk 400 (by decide) d h.lf
  have b := h.bk
  rw [sizeLine_eq]
  omega
theorem ShQ.up {dp bk dp' bk' : Nat} {d : PyData} (h : ShQ dp bk d) (h1 : dp ≤ dp') (h2 : bk ≤ bk') : ShQ dp' bk' d := ⟨h.ok, h.sh, h.lf, Nat.le_trans h.dp h1, Nat.le_trans h.bk h2⟩
theorem log2_lt {n : Int} (h : n.natAbs < 2 ^ 1000) : n.natAbs.log2 < 1920 := by
  rcases Nat.eq_zero_or_pos n.natAbs with e | e
  · rw [e]
    decide
  · have := (Nat.log2_lt (by omega)).mpr h
    omega
theorem ShQ.int {n : Int} (h : n.natAbs < 2 ^ 1000) : ShQ 0 0 (.int n) := by
  have l := log2_lt h
  refine ⟨trivial, by simpa [PyData.showable] using l, ?_, by simp [PyData.depth], by simp [PyData.bulk]⟩
  have q : (2 : Nat) ^ 1000 < 10 ^ 310 := by decide +kernel
  have z : (PySem.Str.ofString (toString n)).length ≤ 311 := by
    have := int_text_length_le10 (a := n) (k := 310) (by decide) (by omega)
    rw [PySem.ofString_length]
    exact this
  simp only [PyData.leavesShort, PyData.shown]
  exact decide_eq_true (Nat.le_trans z (show 311 ≤ 400 by decide))
theorem ShQ.all {dp bk : Nat} : ∀ {ds : List PyData}, (∀ d ∈ ds, ShQ dp bk d) → dOkA ds ∧ PyData.showableAll ds = true ∧ PyData.leavesShortAll 400 ds = true ∧ PyData.depthAll ds ≤ dp ∧ PyData.bulkAll ds ≤ ds.length * (bk + 1)
  | [], _ => ⟨trivial, rfl, rfl, Nat.zero_le _, by simp [PyData.bulkAll]⟩
  | d :: ds, h => by
    have a := h d List.mem_cons_self
    obtain ⟨h0, h1, h2, h3, h4⟩ := ShQ.all fun x hx => h x (List.mem_cons_of_mem _ hx)
    refine ⟨⟨a.ok, h0⟩, by simp [PyData.showableAll, a.sh, h1], by simp [PyData.leavesShortAll, a.lf, h2], ?_, ?_⟩
    · simp only [PyData.depthAll]
      have := a.dp
      omega
    · simp only [PyData.bulkAll, List.length_cons]
      have := a.bk
      rw [Nat.add_mul]
      omega
theorem ShQ.list {dp bk : Nat} {ds : List PyData} (h : ∀ d ∈ ds, ShQ dp bk d) : ShQ (dp + 1) (ds.length * (bk + 1)) (.list ds) := by
  obtain ⟨h0, h1, h2, h3, h4⟩ := ShQ.all h
  refine ⟨h0, by simpa [PyData.showable] using h1, by simpa [PyData.leavesShort] using h2, ?_, by simpa [PyData.bulk] using h4⟩
  simp only [PyData.depth]
  omega
end RC

namespace RC
open PySem PySem.Spec PyProof.Rows L2
theorem walk_S {l : PySem.W.OpenLaw} {n k : Nat} {q : Program} {loose : List Str} {XP : (Str → Option Value) → Heap → Prop} {YP : World → Heap → Prop} {d : DefRec} {CX : World → CXT} {x : Str}
    (hi : importsNone q = true) (hn : l.most = some n) (hn2 : n ≤ sizeLine) (hdf : d.params.defaults = []) (hr : Room k callerA)
    (F : ∀ (w : World) (mg : Str → Option Value) (fa : Addr) (h : Heap), YP w h → h.Ns mainGlobals mg → mg d.name = some (.ref fa) →
      ∃ (K : PySem.W.Frag) (fd : FuncData) (sp : Sp), K.In h ∧ (∀ (s : Shared) (u : Value), BindsTo s fd ⟨[u], []⟩ [(x, u)]) ∧
        (∀ (H : Hp) (a : Addr) (ns : List Int), ns.length ≤ n → SqL K H a (ns.map V.int) → sp [.ref a] H (fun v _ => v = .bl true) fun _ _ _ => False) ∧
        ∀ base : Heap, K.In base → base.Ns mainGlobals mg → NDX base → FnX true l.prog w K mg base (CX w) k fa fd [x] sp)
    (hCX : ∀ (w : World) (H : Hp) (s : Shared) (e : Value) (s' : Shared), CX w [] H s (fun _ _ _ => False) e s' → False) :
    PySem.W.WalkO q loose XP YP l.row.toRowW d [] (fun f vs => PySem.call f vs) := by
  refine Att.attach_call hn hdf ?_
  intro w s0 s1 mg mb fa o pm cd doc a vs ns G Y ho hd hcd hmg hobj hints hlen hgen
  obtain ⟨K, fd, sp, KX, hb, hsp, hF⟩ := F w mg fa _ Y G.T.g hmg
  exact law_callN KX G.T.g G.T.b G.T.builtins G.T.nolimit (fun h' kp => ⟨nd_keep G.T.nodigits kp, by
      obtain ⟨mm, ⟨o, es, ep, e, d, _⟩, _⟩ := (G.T.seer hi).mods
      exact ⟨o, es, ep, kp _ _ _ _ e d, d⟩⟩) hgen hobj hints
    (Nat.le_trans hlen hn2) hr hF hb (fun H hS => hsp H a ns hlen hS) (fun H e s' => hCX w H s1 e s')
end RC

namespace RC
open PySem PySem.Spec PyProof.Rows L2
/-! ### things of any kind, tuples, comprehensions that change things, exceptions -/
def lcS {α β γ : Type} (f : α → γ → (Option β → γ → Prop) → Prop) : List α → γ → List β → (List β → γ → Prop) → Prop
  | [], s, acc, k => k acc s
  | x :: xs, s, acc, k => f x s fun y s' => lcS f xs s' (acc ++ y.toList) k
def isNo : PyData → Bool
  | .none => true
  | _ => false
def anyAt : PyData → Int → Option PyData
  | .list ds, i => atI ds i
  | .tuple ds, i => atI ds i
  | _, _ => none
section
variable {α β γ : Type} {K : PySem.W.Frag} {Rs : List Res} {H : Hp} {σ : L2.St} {Q : VK} {D : Ends} {v w : V} {d d' : PyData} {p : Addr} {e : α → PyData} {xs ys : List α}
theorem M.cstA (S : M Rs H) (i : Nat) (h0 : Rs[i]? = some (da K v d)) (h : d = d') : M (da K v d' :: Rs) H := h ▸ M.addA S (EnF.at i h0)
theorem v_ixa {i : Int} {x : PyData} (S : M Rs H) (j : Nat) (hj : Rs[j]? = some (da K v d)) (hx : anyAt d i = some x) (k : ∀ u, M (da K u x :: Rs) H → Q u H) : uIx K v (.int i) H Q := by
  cases d with
  | list ds => exact v_ixq S (.inl (EnF.at j hj)) hx k
  | tuple ds => exact v_ixq S (.inr (EnF.at j hj)) hx k
  | _ => cases hx
theorem DqAll.fixT {F : Hp} {L : List Cell} {vs : List V} {ds : List PyData} (s : Sat F Rs L) (m : MemC F L H) (q : DqAll K F vs ds) (k : ∀ p H', M (da K (.ref p) (.tuple ds) :: Rs) H' → Q (.ref p) H') : ∀ p, H p = none → Q (.ref p) (upd H p (.tup vs)) := by
  intro p hp
  have S1 : M (daA K vs ds :: Rs) H := ⟨F, L, ⟨[], L, rfl, ⟨rfl, q⟩, s⟩, m⟩
  refine k p _ ?_
  have S2 : M (pt p (.tup vs) :: daA K vs ds :: Rs) (upd H p (.tup vs)) := S1.new hp
  have S3 : M (da K (.ref p) (.tuple ds) :: daA K vs ds :: Rs) (upd H p (.tup vs)) := S2.fixG (R := da K (.ref p) (.tuple ds)) (φ := fun F => DqAll K F vs ds) (fun F L ⟨_, _, _, a, _⟩ => a.2) fun F q e => ⟨rfl, .tup (.inl (.inl e)) q⟩
  exact M.sub (.cons 0 rfl (.tl (.refl _))) S3
theorem v_slA {lo hi : Option Int} (S : M Rs H) (j : Nat) (hj : Rs[j]? = some (da K v (eV e xs))) (k : ∀ u H', M (da K u (eV e (cutL xs lo hi)) :: Rs) H' → Q u H') : rSlA K v lo hi H Q := by
  obtain ⟨F, L, s, m⟩ := id S
  have d0 := EnF.at j hj F L s
  cases d0 with
  | tup a q =>
    rename_i vs
    refine ⟨_, _, rfl, m.ex.sqT a, fun hw => ?_, fun _ => ?_⟩
    · have hl : vs.length = xs.length := by have := q.len; rwa [List.length_map] at this
      have e1 : cutL xs lo hi = xs := by
        unfold cutL
        rw [← hl, hw.1, hw.2]
        simp [hl]
      refine k _ H ?_
      rw [e1]
      exact S.addA (EnF.at j hj)
    · refine DqAll.fixT s m (q.cut lo hi) fun p H' S' => k _ H' ?_
      unfold eV
      rw [← cutL_map]
      exact S'
theorem v_catA (S : M Rs H) (i j : Nat) (hi : Rs[i]? = some (da K v (eV e xs))) (hj : Rs[j]? = some (da K w (eV e ys))) (hz : xs.length + ys.length ≤ 100000) (k : ∀ u H', M (da K u (eV e (xs ++ ys)) :: Rs) H' → Q u H') : rCatA K v w H Q := by
  obtain ⟨F, L, s, m⟩ := id S
  have d0 := EnF.at i hi F L s
  have d1 := EnF.at j hj F L s
  cases d0 with
  | tup a q =>
    cases d1 with
    | tup a' q' =>
      rename_i vs _ ws
      have l1 := q.len
      have l2 := q'.len
      rw [List.length_map] at l1 l2
      refine ⟨_, _, _, _, rfl, rfl, m.ex.sqT a, m.ex.sqT a', Nat.le_trans (by rw [l1, l2]; exact hz) (by decide), fun z => ?_, fun _ z => ?_, fun _ _ => ?_⟩
      · subst z
        have : xs = [] := List.length_eq_zero_iff.mp l1.symm
        subst this
        exact k _ H (S.addA (EnF.at j hj))
      · subst z
        have : ys = [] := List.length_eq_zero_iff.mp l2.symm
        subst this
        refine k _ H ?_
        rw [List.append_nil]
        exact S.addA (EnF.at i hi)
      · refine DqAll.fixT s m (q.app q') fun p H' S' => k _ H' ?_
        unfold eV
        rw [List.map_append]
        exact S'
theorem isNo_eq (h : Dq K H v d) : isNo d = decide (v = .non) := by
  cases h <;> simp [isNo]
theorem v_isNa (h : Dq K H v d) (k : Q (.bl (isNo d)) H) : rIsN v .non H Q := ⟨rfl, by rw [← isNo_eq h]; exact k⟩
theorem v_notNa (h : Dq K H v d) (k : Q (.bl (!isNo d)) H) : rNotN v .non H Q := ⟨rfl, by rw [← isNo_eq h]; exact k⟩
theorem v_all {bs : List Bool} (h : Dq K H v (eL eB bs)) (k : Q (.bl (bs.all id)) H) : rAll K [v] H Q := by
  obtain ⟨a, rfl, hs⟩ := flB.lst h
  exact ⟨a, bs, rfl, hs, k⟩
/-- pop of one's own dict -/
theorem v_dpopA {κ : Type} {ik : κ → Key} {tb : TE} {m : List (κ × α)} (S : M Rs H) (j : Nat) (hj : Rs[j]? = some (adR K ik e p m)) (k : tb σ H (PopV p Q)) : Pop1K tb σ Q (.ref p) H := by
  obtain ⟨kvs, h, t⟩ := S.gotDk j hj
  exact v_dpop h k
theorem popd_core {κ : Type} [DecidableEq κ] {ik : κ → Key} {m : List (κ × α)} {k : κ} {x : α} (inj : ∀ a b, ik a = ik b → a = b) (S : M Rs H) (j : Nat) (hj : Rs[j]? = some (adR K ik e p m)) (hx : lk m k = some x) :
    ∃ kvs u, H p = some (.dK kvs) ∧ valV kvs (ik k) = some u ∧ M (da K u (e x) :: adR K ik e p (dk m k) :: Rs.eraseIdx j) (upd H p (.dK (dropK kvs (ik k)))) := by
  obtain ⟨kvs, S1⟩ := adR_open S j hj
  have S2 := S1.putAt (o' := .dK (dropK kvs (ik k))) 0 rfl
  obtain ⟨F, L, ⟨l1, l2, rfl, a, l3, l4, rfl, ⟨rfl, t⟩, b⟩, mm⟩ := id S2
  obtain ⟨u, h1, h2⟩ := t.some inj hx
  exact ⟨kvs, u, S1.got 0 rfl, h1, F, _, ⟨[], _, rfl, ⟨rfl, h2⟩, l1, l4, by simp, ⟨_, l1, [], by simp, a, rfl, t.drop inj⟩, b⟩, mm⟩
theorem v_popAS {m : List (Str × α)} {n : Str} {x : α} (S : M Rs H) (j : Nat) (hj : Rs[j]? = some (adR K iS e p m)) (hx : lk m n = some x) (k : ∀ u H', M (da K u (e x) :: adR K iS e p (dk m n) :: Rs.eraseIdx j) H' → Q u H') : PopV p Q (.str n) H := by
  obtain ⟨kvs, u, h1, h2, S2⟩ := popd_core injS S j hj hx
  exact ⟨kvs, Sum.inr n, u, h1, rfl, h2, k u _ S2⟩
theorem v_popAI {m : List (Int × α)} {n : Int} {x : α} (S : M Rs H) (j : Nat) (hj : Rs[j]? = some (adR K iI e p m)) (hx : lk m n = some x) (k : ∀ u H', M (da K u (e x) :: adR K iI e p (dk m n) :: Rs.eraseIdx j) H' → Q u H') : PopV p Q (.int n) H := by
  obtain ⟨kvs, u, h1, h2, S2⟩ := popd_core injI S j hj hx
  exact ⟨kvs, Sum.inl n, u, h1, rfl, h2, k u _ S2⟩
/-- a comprehension over a range that changes things -/
theorem lc_rngS {te : TE} {tt : TT} {g : TG} {ws : List Nat} {F : Int → γ → (Option β → γ → Prop) → Prop} {e' : β → PyData} {n : Int} {s0 : γ} {KK : List β → γ → Prop} (RsF : γ → List Res) (hf : (rng n).length ≤ 100000 ∧ lcS F (rng n) s0 [] KK) (S : M (RsF s0) H)
    (hs : ∀ x (s : γ) (acc : List β) E H (kk : Option β → γ → Prop) (N : Hp → Prop), (acc.map e').length < 100000 → M (acR K E (acc.map e') :: RsF s) H → F x s kk →
      (∀ y s' H, kk (some y) s' → M (acR K E (acc.map e' ++ [e' y]) :: RsF s') H → N H) → (∀ s' H, kk none s' → M (acR K E (acc.map e') :: RsF s') H → N H) → g (.int x) (wipe σ ws) H fun σ2 H2 => wipe σ2 ws = wipe σ ws ∧ tt σ2 H2 fun b H3 =>
      if b = true then te σ2 H3 (LcK N E) else N H3)
    (hd : ∀ E (acc : List β) s H, KK acc s → M (acR K E (acc.map e') :: RsF s) H → Q (.ref E) H) : LcW (Itr 0 n.toNat) g tt te ws σ Q H := by
  obtain ⟨hz, hf⟩ := hf
  rw [rng_len] at hz
  refine lc_X walk_range (fun E i H => ∃ acc s, lcS F ((rng n).drop i) s acc KK ∧ acc.length ≤ i ∧ M (acR K E (acc.map e') :: RsF s) H) (fun E hE => ⟨[], s0, by simpa using hf, Nat.le_refl _, acR_nil (S.new hE)⟩) (fun E i H _ _ => trivial) ?_ ?_
  · rintro E i v H H' hi ⟨acc, s, hf, ha, S⟩ ⟨rfl, rfl⟩
    have hi2 : i < (rng n).length := by rw [rng_len]; exact hi
    rw [List.drop_eq_getElem_cons hi2] at hf
    have e : (rng n)[i] = (0 : Int) + (i : Nat) := Option.some.inj ((List.getElem?_eq_getElem hi2).symm.trans (rng_get hi))
    rw [e] at hf
    refine hs _ s acc E H' _ _ (by rw [List.length_map]; omega) S hf (fun y s' H hk S => ⟨acc ++ [y], s', hk, by rw [List.length_append]; simpa using ha, by rw [List.map_append]; exact S⟩) (fun s' H hk S => ⟨acc, s', ?_, by omega, S⟩)
    simpa using hk
  · rintro E H ⟨acc, s, hf, ha, S⟩
    rw [← rng_len, List.drop_length] at hf
    exact hd E acc s H hf S
/-! in a tuple, in a list of texts -/
theorem inV_str {s : Str} : ∀ xs : List Str, inV (.str s) (xs.map V.str) = xs.any fun y => decide (y = s)
  | [] => rfl
  | x :: xs => by
    have h := inV_str (s := s) xs
    unfold inV at h ⊢
    rw [List.map_cons, List.any_cons, List.any_cons, h]
    congr 1
theorem flat_strs : ∀ xs : List Str, (xs.map V.str).all flatV = true
  | [] => rfl
  | x :: xs => by rw [List.map_cons, List.all_cons, flat_strs xs]; rfl
theorem v_inT {s : Str} {xs : List Str} (h : SqL K H p (xs.map V.str) ∨ SqT K H p (xs.map V.str)) (k : Q (.bl (xs.any fun y => decide (y = s))) H) : uIn K (.str s) (.ref p) H Q :=
  .inl ⟨p, _, rfl, h, rfl, flat_strs xs, by rw [inV_str]; exact k⟩
theorem v_ninT {s : Str} {xs : List Str} (h : SqL K H p (xs.map V.str) ∨ SqT K H p (xs.map V.str)) (k : Q (.bl (!(xs.any fun y => decide (y = s)))) H) : uNotIn K (.str s) (.ref p) H Q :=
  .inl ⟨p, _, rfl, h, rfl, flat_strs xs, by rw [inV_str]; exact k⟩
theorem Dq.sqTS {xs : List Str} (h : Dq K H v (eV eS xs)) : ∃ a, v = .ref a ∧ SqT K H a (xs.map V.str) := by
  cases h with
  | tup a q => exact ⟨_, rfl, (flS.all q) ▸ a⟩
theorem v_inV {s : Str} {xs : List Str} (h : Dq K H v (eV eS xs)) (k : Q (.bl (xs.any fun y => decide (y = s))) H) : uIn K (.str s) v H Q := by
  obtain ⟨a, rfl, hs⟩ := h.sqTS
  exact v_inT (.inr hs) k
theorem v_ninV {s : Str} {xs : List Str} (h : Dq K H v (eV eS xs)) (k : Q (.bl (!(xs.any fun y => decide (y = s)))) H) : uNotIn K (.str s) v H Q := by
  obtain ⟨a, rfl, hs⟩ := h.sqTS
  exact v_ninT (.inr hs) k
theorem eV_any (e : α → PyData) (xs : List α) : eV e xs = eV eA (xs.map e) := by
  unfold eV
  rw [List.map_map]
  rfl
theorem kit_cons {cls c : Value} {cs : List Value} {b d : Bool} (h : PySem.W.kitOne K cls c = some b) (h2 : PySem.W.kitAny K cls cs = some d) : PySem.W.kitAny K cls (c :: cs) = some (b || d) := by
  cases b <;> simp [PySem.W.kitAny, h, h2]
theorem v_hdY {W : WX} {cs : List Value} {sl : Option Nat} {ts : Addr → Value → Option Addr → TS} {r : List Hd} {cls : Value} {dd : Option Addr} (h : PySem.W.exmAny K cls cs = some true) (k : ∀ a, ts a cls dd (Hd.ends D sl) (Hd.put σ a sl) H) : wTry K W D (⟨cs, sl, ts⟩ :: r) cls dd σ H :=
  ⟨true, h, fun _ a _ => k a, fun z => nomatch z⟩
theorem v_hdN {W : WX} {cs : List Value} {sl : Option Nat} {ts : Addr → Value → Option Addr → TS} {r : List Hd} {cls : Value} {dd : Option Addr} (h : PySem.W.exmAny K cls cs = some false) (k : wTry K W D r cls dd σ H) : wTry K W D (⟨cs, sl, ts⟩ :: r) cls dd σ H :=
  ⟨false, h, (fun z => nomatch z), fun _ => k⟩
theorem g_xgv {a C dd : Addr} {fs : List (Str × V)} {n : Str} {i : Nat} (hv : σ[i]? = some (some (.ref a))) (c : ExcC K C) (hn : PySem.W.findIn K (.ref C) n = some none) (h : H dd = some (.xd fs)) (l : fs.lookup n = some v) (k : Q v H) : tXg K a (.ref C) (some dd) n (tVar i) σ H Q :=
  g_xg (g_var hv (v_xg c hn h l k))
theorem v_isXs {a : Addr} {C dd tp : Addr} {fs : List (Str × V)} {cs : List V} {us : List Value} {b : Bool} (c : ExcC K C) (h : H dd = some (.xd fs)) (ht : H tp = some (.tup cs)) (pr : Paired ClsV cs us) (e : PySem.W.kitAny K (.ref C) us = some b) (k : Q (.bl b) H) : uIsX K a (.ref C) (some dd) [.ref a, .ref tp] H Q :=
  .inr ⟨tp, cs, us, b, rfl, ⟨C, rfl, c, .inr ⟨dd, fs, rfl, h⟩⟩, ht, pr, e, k⟩
end
end RC

namespace RC
open PySem PySem.Spec PyProof.Rows L2
/-! ### calls by keywords, defs and methods that may raise -/
section
variable {X : Cx} {CX : CXT} {g : Bool} {k n : Nat} {f C : Addr} {fd : FuncData} {ps ks : List Str} {sp : Sp} {W : WX} {x m : Str} {p pos apos : Pos} {o e : Expr} {es : List Expr} {kws : List Keyword} {t tk : TA} {ta : TE} {gg : List Value → List Value → List Value} {gV : List V → List V → List V}
theorem runWN {pins : List (Addr × Obj)} {σ : L2.St} {H : Hp} {s : Shared} {Q : VK} {E : XK} {us ws : List Value} {vs zs : List V} (F : FnX g X.prog X.w X.K X.mg X.base CX k f fd ps sp) (hg : g = true → X.A.guards = some []) (hr : Room k X.A)
    (hb : KBn X.K fd ps n ks gg gV) (hx : PassesAt CX X σ E) (I : Inv X pins σ H s) (r : Vals vs us) (rz : Vals zs ws) (l1 : vs.length = n) (l2 : zs.length = ks.length) (h : sp (gV vs zs) H Q E) :
    wpAny (model X.prog X.w) X.A (call (.ref f) us (ks.zip ws)) (EP X pins σ Q) X.xe s := by
  have rr := hb.rel r rz
  have go := ended I hx (F.runG X.A X.stack s H ⟨us, ks.zip ws⟩ _ (gg us ws) (gV vs zs) Q E hg hr I.env0 (hb.to s us ws I.kIn (r.length.symm.trans l1) (rz.length.symm.trans l2)) (.refl _) rr h)
  refine wpAny_call (codeAny_mono go fun res s' hq => ?_)
  match res, hq with
  | .error _, hq => exact hq
  | .ok (.ret _), hq => exact hq
/-- o.m(e, .., k = v, ..) -/
def tMethN (n l : Nat) (W : WX) (C : Addr) (m : Str) (sp : Sp) (gV : List V → List V → List V) (ta : TE) (t tk : TA) : TE := fun σ H Q => ta σ H fun x H1 => ∃ a dx fs, x = .ref a ∧ H1 a = some (.ins C dx fs) ∧ fs.lookup m = none ∧ t σ H1 fun vs H2 => tk σ H2 fun zs H3 => vs.length + 1 = n ∧ zs.length = l ∧ sp (gV (x :: vs) zs) H3 Q (WE W σ)
theorem pe_methN {pl : Sem Bool} (he : PE X o ta) (c : Cls X.K C) (hm : Meth X.K C m f) (F : FnX g X.prog X.w X.K X.mg X.base CX k f fd ps sp) (hgu : g = true → X.A.guards = some []) (hr : Room k X.A) (hb : KBn X.K fd ps n ks gg gV)
    (hx : ∀ σ, PassesAt CX X σ (WE W σ)) (ha : PA X (e :: es) t) (hkw : PK X kws tk) (hst : starEach (e :: es) X.env = (false, eval e X.env) :: starEach es X.env := by rfl)
    (hall : (backToKw pos (keywordEach kws X.env)).all (·.1.isSome) = true := by rfl) (hks : (backToKw pos (keywordEach kws X.env)).filterMap (·.1) = ks := by rfl)
    (hpl : ((backTo pos (starEach (e :: es) X.env)).any (·.1) || (backToKw pos (keywordEach kws X.env)).any (·.1.isNone)) = false := by rfl)
    (ht : eval (.Call (.Attribute o m apos) (e :: es) kws pos) X.env = (do
      let ov ← eval o X.env
      standAt apos.atName
      let (f, first) ← holding [ov] (getMethod ov m pl)
      callWith pos f first (backTo pos (starEach (e :: es) X.env)) (backToKw pos (keywordEach kws X.env))) := by rfl) : PE X (.Call (.Attribute o m apos) (e :: es) kws pos) (tMethN n ks.length W C m sp gV ta t tk) := by
  constructor
  intro pins s σ H Q I h
  refine PySem.W.methodCall_KW (pl := pl) (thn (he.run pins s σ H _ I h) ?_) ht
  rintro u s1 ⟨x, H1, I1, rx, a, dx, fs, rfl, ea, hl, q⟩
  cases (show u = Value.ref a from rx)
  refine getmeth_ok I1 ea c hm hl ?_
  refine PySem.W.callWith_KW (first := [.ref a]) (h₀ := X.base) I.ok.mod.kin hm.kp hall (thn (ha.run pos pins s1 σ H1 _ I1 q) fun us s2 ⟨vs, H2, I2, r, q2⟩ => ?_) hpl hst
  refine thn (hkw.run pos pins s2 σ H2 _ I2 q2) fun ws s3 ⟨zs, H3, I3, rz, l1, l2, q3⟩ => ⟨I3.kIn, ?_⟩
  rw [hks]
  exact runWN (us := .ref a :: us) (vs := .ref a :: vs) F hgu hr hb (hx σ) I3 (.cons rfl r) rz l1 l2 q3
def MethKN (n l : Nat) (W : WX) (C : Addr) (m : Str) (sp : Sp) (gV : List V → List V → List V) (t tk : TA) (σ : L2.St) (Q : VK) : VK := fun x H1 => ∃ a dx fs, x = .ref a ∧ H1 a = some (.ins C dx fs) ∧ fs.lookup m = none ∧ t σ H1 fun vs H2 => tk σ H2 fun zs H3 => vs.length + 1 = n ∧ zs.length = l ∧ sp (gV (x :: vs) zs) H3 Q (WE W σ)
theorem g_methN {n l : Nat} {σ : L2.St} {H : Hp} {Q : VK} (k : ta σ H (MethKN n l W C m sp gV t tk σ Q)) : tMethN n l W C m sp gV ta t tk σ H Q := k
end
/-! ### dicts that can be read: one's own, locked ones, data -/
theorem Sat.got {F : Hp} : ∀ {Rs : List Res} {L : List Cell} (i : Nat) {R : Res}, Sat F Rs L → Rs[i]? = some R → ∃ l, R.on F l ∧ ∀ c ∈ l, c ∈ L
  | [], L, i, R, _, e => by simp at e
  | S :: Rs, L, 0, R, ⟨l1, l2, h, a, _⟩, e => by
    have e : S = R := Option.some.inj e
    subst e
    exact ⟨l1, a, fun c hc => h ▸ List.mem_append_left _ hc⟩
  | S :: Rs, L, i + 1, R, ⟨l1, l2, h, _, b⟩, e => by
    obtain ⟨l, h1, h2⟩ := Sat.got i b (by simpa using e)
    exact ⟨l, h1, fun c hc => h ▸ List.mem_append_right _ (h2 c hc)⟩
section
variable {K : PySem.W.Frag} {κ α β : Type} {ik : κ → Key} {e : α → PyData} {Rs : List Res} {H : Hp} {Q : VK} {v : V} {p : Addr} {m : List (κ × α)} {σ : L2.St}
def DVs (K : PySem.W.Frag) (Rs : List Res) (H : Hp) (ik : κ → Key) (e : α → PyData) (v : V) (m : List (κ × α)) : Prop :=
  ∃ p kvs F L, v = .ref p ∧ Rd H p (.dK kvs) ∧ Sat F Rs L ∧ MemC F L H ∧ TKv K F ik e kvs m
theorem DqKv.tkv : ∀ {kvs : List (Key × V)} {m : List (κ × α)}, DqKv K H kvs (m.map fun p => (kD (ik p.1), e p.2)) → TKv K H ik e kvs m
  | [], [], _ => .nil
  | [], q :: m, h => by cases h
  | _ :: _, [], h => by cases h
  | (k, v) :: kvs, q :: m, h => by
    generalize e1 : (((q :: m).map fun p => (kD (ik p.1), e p.2)) : List (PyData × PyData)) = ds at h
    cases h with
    | cons h r =>
      simp only [List.map_cons, List.cons.injEq, Prod.mk.injEq] at e1
      obtain ⟨⟨a, b⟩, c⟩ := e1
      subst b c
      cases kD_inj a
      exact .cons h (DqKv.tkv r)
theorem M.dvO (S : M Rs H) (j : Nat) (hj : Rs[j]? = some (adR K ik e p m)) : DVs K Rs H ik e (.ref p) m := by
  obtain ⟨F, L, s, mm⟩ := S
  obtain ⟨l, ⟨kvs, l1, l2, rfl, rfl, rfl, t⟩, hl⟩ := s.got j hj
  exact ⟨p, kvs, F, L, rfl, .inl (mm.own (p, .dK kvs) (hl _ (by simp))).1, s, mm, t⟩
theorem M.dvA (S : M Rs H) (j : Nat) (hj : Rs[j]? = some (da K v (eD ik e m))) : DVs K Rs H ik e v m := by
  obtain ⟨F, L, s, mm⟩ := S
  obtain ⟨l, ⟨rfl, h⟩, hl⟩ := s.got j hj
  cases h with
  | dct h q => exact ⟨_, _, F, L, rfl, .inr ⟨_, mm.ex _ _ h⟩, s, mm, q.tkv⟩
/-- a dict that is lent: one's own, locked, data, data that is walked -/
inductive DF where
  | own
  | lck (p : Addr) (od : Obj) (kvs : List (Key × V))
  | dat
  | fzd (p : Addr) (od : Obj) (kvs : List (Key × V))
def bdR (K : PySem.W.Frag) (ik : κ → Key) (e : α → PyData) (v : V) (m : List (κ × α)) : DF → Res
  | .own => exi fun p => prp (v = .ref p) (adR K ik e p m)
  | .lck p od kvs => prp (v = .ref p) (adL K ik e p od kvs m)
  | .dat => da K v (eD ik e m)
  | .fzd p od kvs => prp (v = .ref p) (sp2 (fz p (.frz od (.dK kvs))) (tkR K ik e kvs m))
theorem M.dvB {f : DF} (S : M Rs H) (j : Nat) (hj : Rs[j]? = some (bdR K ik e v m f)) : DVs K Rs H ik e v m := by
  cases f with
  | own =>
    obtain ⟨F, L, s, mm⟩ := S
    obtain ⟨l, ⟨p, rfl, kvs, l1, l2, rfl, rfl, rfl, t⟩, hl⟩ := s.got j hj
    exact ⟨p, kvs, F, L, rfl, .inl (mm.own (p, .dK kvs) (hl _ (by simp))).1, s, mm, t⟩
  | lck p od kvs =>
    obtain ⟨F, L, s, mm⟩ := S
    obtain ⟨l, ⟨rfl, l1, l2, rfl, rfl, rfl, t⟩, hl⟩ := s.got j hj
    exact ⟨p, kvs, F, L, rfl, .inr ⟨od, (mm.own (p, .frz od (.dK kvs)) (hl _ (by simp))).1⟩, s, mm, t⟩
  | dat => exact S.dvA j hj
  | fzd p od kvs =>
    obtain ⟨F, L, s, mm⟩ := S
    obtain ⟨l, ⟨rfl, l1, l2, rfl, ⟨rfl, h⟩, rfl, t⟩, hl⟩ := s.got j hj
    exact ⟨p, kvs, F, L, rfl, .inr ⟨od, mm.ex _ _ h⟩, s, mm, t⟩
theorem DVs.len (D : DVs K Rs H ik e v m) (k : Q (.int (m.length : Nat)) H) : uLen K [v] H Q := by
  obtain ⟨p, kvs, F, L, rfl, h, _, _, t⟩ := D
  exact .inr ⟨p, kvs, rfl, h, by rw [t.len]; exact k⟩
variable [DecidableEq κ]
theorem DVs.at (inj : ∀ a b, ik a = ik b → a = b) {k : κ} {x : α} (D : DVs K Rs H ik e v m) (hx : lk m k = some x) : ∃ p kvs u, v = .ref p ∧ Rd H p (.dK kvs) ∧ valV kvs (ik k) = some u ∧ M (da K u (e x) :: Rs) H := by
  obtain ⟨p, kvs, F, L, rfl, h, s, mm, t⟩ := D
  obtain ⟨u, h1, h2⟩ := t.some inj hx
  exact ⟨p, kvs, u, rfl, h, h1, F, L, ⟨[], L, rfl, ⟨rfl, h2⟩, s⟩, mm⟩
theorem DVs.has (inj : ∀ a b, ik a = ik b → a = b) (k : κ) (D : DVs K Rs H ik e v m) : ∃ p kvs, v = .ref p ∧ Rd H p (.dK kvs) ∧ (valV kvs (ik k)).isSome = (lk m k).isSome := by
  obtain ⟨p, kvs, F, L, rfl, h, s, mm, t⟩ := D
  exact ⟨p, kvs, rfl, h, t.isSome inj k⟩
end
section
variable {K : PySem.W.Frag} {α β : Type} {e : α → PyData} {Rs : List Res} {H : Hp} {Q : VK} {v : V} {p : Addr} {σ : L2.St}
theorem d_ixS {m : List (Str × α)} {n : Str} {x : α} (D : DVs K Rs H iS e v m) (hx : lk m n = some x) (k : ∀ u, M (da K u (e x) :: Rs) H → Q u H) : rIxK v (.str n) H Q := by
  obtain ⟨p, kvs, u, rfl, h, h1, S⟩ := D.at injS hx
  exact ⟨p, u, rfl, .inl ⟨kvs, Sum.inr n, h, rfl, h1.symm⟩, k u S⟩
theorem d_ixI {m : List (Int × α)} {n : Int} {x : α} (D : DVs K Rs H iI e v m) (hx : lk m n = some x) (k : ∀ u, M (da K u (e x) :: Rs) H → Q u H) : rIxK v (.int n) H Q := by
  obtain ⟨p, kvs, u, rfl, h, h1, S⟩ := D.at injI hx
  exact ⟨p, u, rfl, .inl ⟨kvs, Sum.inl n, h, rfl, h1.symm⟩, k u S⟩
theorem d_inS {m : List (Str × α)} {n : Str} (D : DVs K Rs H iS e v m) (k : Q (.bl (lk m n).isSome) H) : uIn K (.str n) v H Q := by
  obtain ⟨p, kvs, rfl, h, e⟩ := D.has injS n
  exact .inr (.inr (.inl ⟨p, _, rfl, .inl ⟨kvs, Sum.inr n, h, rfl, rfl⟩, by rw [show (Sum.inr n : Key) = iS n from rfl, e]; exact k⟩))
theorem d_ninS {m : List (Str × α)} {n : Str} (D : DVs K Rs H iS e v m) (k : Q (.bl (!(lk m n).isSome)) H) : uNotIn K (.str n) v H Q := by
  obtain ⟨p, kvs, rfl, h, e⟩ := D.has injS n
  exact .inr (.inr (.inl ⟨p, _, rfl, .inl ⟨kvs, Sum.inr n, h, rfl, rfl⟩, by rw [show (Sum.inr n : Key) = iS n from rfl, e]; exact k⟩))
theorem d_inI {m : List (Int × α)} {n : Int} (D : DVs K Rs H iI e v m) (k : Q (.bl (lk m n).isSome) H) : uIn K (.int n) v H Q := by
  obtain ⟨p, kvs, rfl, h, e⟩ := D.has injI n
  exact .inr (.inr (.inl ⟨p, _, rfl, .inl ⟨kvs, Sum.inl n, h, rfl, rfl⟩, by rw [show (Sum.inl n : Key) = iI n from rfl, e]; exact k⟩))
theorem d_ninI {m : List (Int × α)} {n : Int} (D : DVs K Rs H iI e v m) (k : Q (.bl (!(lk m n).isSome)) H) : uNotIn K (.int n) v H Q := by
  obtain ⟨p, kvs, rfl, h, e⟩ := D.has injI n
  exact .inr (.inr (.inl ⟨p, _, rfl, .inl ⟨kvs, Sum.inl n, h, rfl, rfl⟩, by rw [show (Sum.inl n : Key) = iI n from rfl, e]; exact k⟩))
theorem d_srtS {m : List (Str × α)} (D : DVs K Rs H iS e v m) (hz : (ks m).length < 64) (k : ∀ q H', M (acR K q ((srtS' (ks m)).map eS) :: Rs) H' → Q (.ref q) H') : rSortDS [v] H Q := by
  obtain ⟨p, kvs, F, L, rfl, h, s, mm, t⟩ := D
  refine ⟨p, kvs, ks m, rfl, h, t.keys, hz, fun ys q hp hs hn => ?_⟩
  rw [srtS_eq hp hs]
  exact k q _ (M.ownS (M.new ⟨F, L, s, mm⟩ hn))
theorem d_srtI {m : List (Int × α)} (D : DVs K Rs H iI e v m) (hz : (ks m).length < 64) (k : ∀ q H', M (acR K q ((srt (ks m)).map eI) :: Rs) H' → Q (.ref q) H') : rSortDI [v] H Q := by
  obtain ⟨p, kvs, F, L, rfl, h, s, mm, t⟩ := D
  refine ⟨p, kvs, ks m, rfl, h, t.keys, hz, fun ys q hp hs hn => ?_⟩
  rw [srt_eq hp hs]
  exact k q _ (M.ownI (M.new ⟨F, L, s, mm⟩ hn))
/-- dict(d) -/
theorem d_dict {κ : Type} {ik : κ → Key} {m : List (κ × α)} (D : DVs K Rs H ik e v m) (k : ∀ q H', M (adR K ik e q m :: Rs) H' → Q (.ref q) H') : rDictD [v] H Q := by
  obtain ⟨p, kvs, F, L, rfl, h, s, mm, t⟩ := D
  refine ⟨p, kvs, rfl, h, fun q hn => k q _ ?_⟩
  have S1 : M (tkR K ik e kvs m :: Rs) H := ⟨F, L, ⟨[], L, rfl, ⟨rfl, t⟩, s⟩, mm⟩
  exact adR_close (S1.new hn)
end
/-! ### walks over a dict's keys -/
def tLkE (t : TE) : TE := fun σ H Q => t σ H Q ∨ tLockE t σ H Q
theorem pe_lk {X : Cx} {x : Expr} {t : TE} (h : PE X x t) : PE X x (tLkE t) := ⟨fun pins s σ H Q I hw => hw.elim (fun q => h.run pins s σ H Q I q) (fun q => (pe_lock h).run pins s σ H Q I q)⟩
def tLkS (t : TS) : TS := fun D σ H => t D σ H ∨ tLock t D σ H
theorem ps_lk {X : Cx} {x : Stmt} {t : TS} (h : PS X x t) : PS X x (tLkS t) := ⟨fun pins s σ H D I hw => hw.elim (fun q => h.run pins s σ H D I q) (fun q => (ps_lock h).run pins s σ H D I q)⟩
theorem asg_lk {r : TE} {i : Nat} {D : Ends} {σ : L2.St} {H : Hp} (h : tAsg (tLkE r) (gName i) D σ H) : tLkS (tAsg r (gName i)) D σ H := h.elim .inl .inr
section
variable {K : PySem.W.Frag} {κ α β : Type} {ik : κ → Key} {e : α → PyData} {Rs : List Res} {H : Hp} {Q : VK} {v : V} {p : Addr} {m : List (κ × α)} {σ : L2.St} {od : Obj} {kvs : List (Key × V)}
theorem keys_at {sv : κ → V} (hsv : ∀ q, kV (ik q) = sv q) (hk : kvs.map (·.1) = (ks m).map ik) {i : Nat} {k : Key} {u : V} (h : kvs[i]? = some (k, u)) : ∃ hi : i < (ks m).length, kV k = sv (ks m)[i] := by
  have h1 : (kvs.map (·.1))[i]? = some k := by rw [List.getElem?_map, h]; rfl
  rw [hk, List.getElem?_map] at h1
  rcases Nat.lt_or_ge i (ks m).length with hi | hi
  · rw [List.getElem?_eq_getElem hi] at h1
    have h1 : ik (ks m)[i] = k := Option.some.inj h1
    exact ⟨hi, by rw [← h1]; exact hsv _⟩
  · rw [List.getElem?_eq_none hi] at h1
    cases h1
theorem lc_fz {te : TE} {tt : TT} {g : TG} {ws : List Nat} {F : κ → (Option β → Prop) → Prop} {e' : β → PyData} {KK : List β → Prop} {R : Res} {sv : κ → V} (hsv : ∀ q, kV (ik q) = sv q) (hk : kvs.map (·.1) = (ks m).map ik) (hf : (ks m).length ≤ 100000 ∧ lcD F (ks m) [] KK)
    (S : M (R :: Rs) H) (hfr : ∀ Rs H, M (R :: Rs) H → H p = some (.frz od (.dK kvs)))
    (hs : ∀ x (acc : List β) E H (kk : Option β → Prop) (N : Hp → Prop), (acc.map e').length < 100000 → M (acR K E (acc.map e') :: R :: Rs) H → F x kk →
      (∀ y H, kk (some y) → M (acR K E (acc.map e' ++ [e' y]) :: R :: Rs) H → N H) → (∀ H, kk none → M (acR K E (acc.map e') :: R :: Rs) H → N H) → g (sv x) (wipe σ ws) H fun σ2 H2 => wipe σ2 ws = wipe σ ws ∧ tt σ2 H2 fun b H3 =>
      if b = true then te σ2 H3 (LcK N E) else N H3)
    (hd : ∀ E (acc : List β) H, KK acc → M (acR K E (acc.map e') :: R :: Rs) H → Q (.ref E) H) : LcW (Itk p od kvs) g tt te ws σ Q H := by
  obtain ⟨hz, hf⟩ := hf
  have hl : kvs.length = (ks m).length := by
    have := congrArg List.length hk
    simpa using this
  refine lc_X walk_keys (fun E n H => ∃ acc, lcD F ((ks m).drop n) acc KK ∧ acc.length ≤ n ∧ M (acR K E (acc.map e') :: R :: Rs) H) (fun E hE => ⟨[], by simpa using hf, Nat.le_refl _, acR_nil (S.new hE)⟩) (fun E n H _ ⟨acc, _, _, S⟩ => hfr _ _ (S.at 1 rfl)) ?_ ?_
  · rintro E n v H H' hn ⟨acc, hf, ha, S⟩ ⟨rfl, k, u, hk', rfl⟩
    obtain ⟨hn2, ek⟩ := keys_at hsv hk hk'
    rw [List.drop_eq_getElem_cons hn2] at hf
    rw [ek]
    refine hs _ acc E H' _ _ (by rw [List.length_map]; omega) S hf (fun y H hk S => ⟨acc ++ [y], hk, by rw [List.length_append]; simpa using ha, by rw [List.map_append]; exact S⟩) (fun H hk S => ⟨acc, ?_, by omega, S⟩)
    simpa using hk
  · rintro E H ⟨acc, hf, ha, S⟩
    rw [hl, List.drop_length] at hf
    exact hd E acc H hf S
theorem M.openDk (S : M (da K v (eD ik e m) :: Rs) H) : ∃ p od kvs, v = .ref p ∧ kvs.map (·.1) = (ks m).map ik ∧ M (fz p (.frz od (.dK kvs)) :: tkR K ik e kvs m :: Rs) H := by
  obtain ⟨F, L, ⟨l1, l2, rfl, ⟨rfl, h⟩, b⟩, mm⟩ := S
  cases h with
  | dct h q => exact ⟨_, _, _, rfl, q.tkv.keys, F, l2, ⟨[], l2, rfl, ⟨rfl, h⟩, [], l2, rfl, ⟨rfl, q.tkv⟩, b⟩, mm⟩
theorem M.closeDk (S : M (fz p (.frz od (.dK kvs)) :: tkR K ik e kvs m :: Rs) H) : M (da K (.ref p) (eD ik e m) :: Rs) H := by
  obtain ⟨F, L, ⟨l1, l2, rfl, ⟨rfl, h⟩, l3, l4, rfl, ⟨rfl, t⟩, b⟩, mm⟩ := S
  exact ⟨F, l4, ⟨[], l4, rfl, ⟨rfl, .dct h t.kv⟩, b⟩, mm⟩
theorem lck_frz (S : M (bdR K ik e v m (.lck p od kvs) :: Rs) H) : H p = some (.frz od (.dK kvs)) := by
  obtain ⟨F, L, ⟨l1, l2, rfl, ⟨rfl, l3, l4, rfl, rfl, rfl, t⟩, b⟩, mm⟩ := S
  exact (mm.own (p, .frz od (.dK kvs)) (by simp)).1
theorem fzd_frz (S : M (bdR K ik e v m (.fzd p od kvs) :: Rs) H) : H p = some (.frz od (.dK kvs)) := by
  obtain ⟨F, L, ⟨l1, l2, rfl, ⟨rfl, l3, l4, rfl, ⟨rfl, h⟩, rfl, t⟩, b⟩, mm⟩ := S
  exact mm.ex _ _ h
theorem bd_open (S : M (adR K ik e p m :: Rs) H) : M (bdR K ik e (.ref p) m .own :: Rs) H := M.ex' (T := fun q => prp (V.ref p = .ref q) (adR K ik e q m)) p (M.pr' rfl S)
theorem bd_close (S : M (bdR K ik e (.ref p) m .own :: Rs) H) : M (adR K ik e p m :: Rs) H := by
  obtain ⟨q, S⟩ := M.ex (show M ((exi fun q => prp (V.ref p = .ref q) (adR K ik e q m)) :: Rs) H from S)
  obtain ⟨h, S⟩ := S.pr
  cases h
  exact S
theorem lc_kys {te td : TE} {tt : TT} {g : TG} {ws : List Nat} {F : κ → (Option β → Prop) → Prop} {e' : β → PyData} {KK : List β → Prop} {f : DF} {sv : κ → V} (hsv : ∀ q, kV (ik q) = sv q) (hf : (ks m).length ≤ 100000 ∧ lcD F (ks m) [] KK) (S : M Rs H) (j : Nat) (hj : Rs[j]? = some (bdR K ik e v m f))
    (htd : ∀ f' H' (Q' : VK), M (bdR K ik e v m f' :: Rs.eraseIdx j) H' → Q' v H' → td σ H' Q')
    (hs : ∀ f' x (acc : List β) E H (kk : Option β → Prop) (N : Hp → Prop), (acc.map e').length < 100000 → M (acR K E (acc.map e') :: bdR K ik e v m f' :: Rs.eraseIdx j) H → F x kk →
      (∀ y H, kk (some y) → M (acR K E (acc.map e' ++ [e' y]) :: bdR K ik e v m f' :: Rs.eraseIdx j) H → N H) → (∀ H, kk none → M (acR K E (acc.map e') :: bdR K ik e v m f' :: Rs.eraseIdx j) H → N H) → g (sv x) (wipe σ ws) H fun σ2 H2 => wipe σ2 ws = wipe σ ws ∧ tt σ2 H2 fun b H3 =>
      if b = true then te σ2 H3 (LcK N E) else N H3)
    (hd : ∀ E (acc : List β) H, KK acc → M (acR K E (acc.map e') :: bdR K ik e v m f :: Rs.eraseIdx j) H → Q (.ref E) H) : tLkE (tLc (iKeys td) g tt te ws) σ H Q := by
  have S1 := S.at j hj
  cases f with
  | own =>
    obtain ⟨p, S1⟩ := M.ex (show M ((exi fun q => prp (v = .ref q) (adR K ik e q m)) :: Rs.eraseIdx j) H from S1)
    obtain ⟨rfl, S1'⟩ := S1.pr
    obtain ⟨kvs, S1⟩ := adR_open S1' 0 rfl
    refine .inr ⟨p, .dK kvs, S1.got 0 rfl, trivial, fun od => ?_⟩
    have S2 : M (pt p (.frz od (.dK kvs)) :: tkR K ik e kvs m :: Rs.eraseIdx j) (upd H p (.frz od (.dK kvs))) := S1.putAt 0 rfl
    have S3 : M (bdR K ik e (.ref p) m (.lck p od kvs) :: Rs.eraseIdx j) (upd H p (.frz od (.dK kvs))) := M.pr' rfl S2.sp'
    refine htd _ _ _ S3 ⟨p, od, rfl, .inl ⟨kvs, S2.got 0 rfl, ?_⟩⟩
    refine lc_fz (Q := fun v H' => H' p = some (.frz od (.dK kvs)) ∧ Q v (upd H' p (.dK kvs))) hsv (S2.gotT 1 rfl).keys hf S3 (fun _ _ S => lck_frz S) (fun x acc E H kk N h1 h2 h3 h4 h5 => hs _ x acc E H kk N h1 h2 h3 h4 h5) ?_
    rintro E acc H2 hK S4
    have S5 := S4.at 1 rfl
    refine ⟨lck_frz S5, hd E acc _ hK ?_⟩
    obtain ⟨_, S5⟩ := M.pr (show M (prp (V.ref p = .ref p) (adL K ik e p od kvs m) :: acR K E (acc.map e') :: Rs.eraseIdx j) H2 from S5)
    have S6 : M (pt p (.dK kvs) :: tkR K ik e kvs m :: acR K E (acc.map e') :: Rs.eraseIdx j) (upd H2 p (.dK kvs)) := S5.sp.putAt 0 rfl
    exact M.sub (.cons 1 rfl (.refl _)) (bd_open (adR_close S6))
  | lck p od kvs =>
    have e1 : v = .ref p := (M.pr (show M (prp (v = .ref p) (adL K ik e p od kvs m) :: Rs.eraseIdx j) H from S1)).1
    have t : TKv K H ik e kvs m := ((M.pr (show M (prp (v = .ref p) (adL K ik e p od kvs m) :: Rs.eraseIdx j) H from S1)).2).sp.gotT 1 rfl
    refine .inl (htd _ _ _ S1 ⟨p, od, e1, .inl ⟨kvs, lck_frz S1, ?_⟩⟩)
    exact lc_fz hsv t.keys hf S1 (fun _ _ S => lck_frz S) (fun x acc E H kk N h1 h2 h3 h4 h5 => hs _ x acc E H kk N h1 h2 h3 h4 h5) (fun E acc H hK S => hd E acc H hK S)
  | dat =>
    obtain ⟨p, od, kvs, rfl, hk, S2⟩ := M.openDk (show M (da K v (eD ik e m) :: Rs.eraseIdx j) H from S1)
    have S3 : M (bdR K ik e (.ref p) m (.fzd p od kvs) :: Rs.eraseIdx j) H := M.pr' rfl S2.sp'
    refine .inl (htd _ _ _ S3 ⟨p, od, rfl, .inl ⟨kvs, fzd_frz S3, ?_⟩⟩)
    refine lc_fz hsv hk hf S3 (fun _ _ S => fzd_frz S) (fun x acc E H kk N h1 h2 h3 h4 h5 => hs _ x acc E H kk N h1 h2 h3 h4 h5) ?_
    rintro E acc H2 hK S4
    have S5 := S4.at 1 rfl
    obtain ⟨_, S5⟩ := M.pr (show M (prp (V.ref p = .ref p) (sp2 (fz p (.frz od (.dK kvs))) (tkR K ik e kvs m)) :: acR K E (acc.map e') :: Rs.eraseIdx j) H2 from S5)
    exact hd E acc _ hK (M.sub (.cons 1 rfl (.refl _)) (M.closeDk S5.sp))
  | fzd p od kvs =>
    have e1 : v = .ref p := (M.pr (show M (prp (v = .ref p) (sp2 (fz p (.frz od (.dK kvs))) (tkR K ik e kvs m)) :: Rs.eraseIdx j) H from S1)).1
    have t : TKv K H ik e kvs m := ((M.pr (show M (prp (v = .ref p) (sp2 (fz p (.frz od (.dK kvs))) (tkR K ik e kvs m)) :: Rs.eraseIdx j) H from S1)).2).sp.gotT 1 rfl
    refine .inl (htd _ _ _ S1 ⟨p, od, e1, .inl ⟨kvs, fzd_frz S1, ?_⟩⟩)
    exact lc_fz hsv t.keys hf S1 (fun _ _ S => fzd_frz S) (fun x acc E H kk N h1 h2 h3 h4 h5 => hs _ x acc E H kk N h1 h2 h3 h4 h5) (fun E acc H hK S => hd E acc H hK S)
/-- for k in d, d data -/
theorem for_fz {F : κ → β → (β → Prop) → Prop} {s0 : β} {KK : β → Prop} {g : TG} {tb : TS} {D : Ends} {sv : κ → V} (hsv : ∀ q, kV (ik q) = sv q) (hk : kvs.map (·.1) = (ks m).map ik) (hf : forD F (ks m) s0 KK) (Inv : β → L2.St → Hp → Prop) (h0 : Inv s0 σ H)
    (hrd : ∀ s σ H, Inv s σ H → H p = some (.frz od (.dK kvs)))
    (hs : ∀ x s σ H (kk : β → Prop), Inv s σ H → F x s kk → g (sv x) σ H fun σ2 H2 => tb ⟨fun σ H => ∃ s', kk s' ∧ Inv s' σ H, D.rt, D.nx, fun σ H => ∃ s', kk s' ∧ Inv s' σ H⟩ σ2 H2)
    (hd : ∀ s σ H, KK s → Inv s σ H → D.nx σ H) : ForW (Itk p od kvs) g tb D σ H := by
  have hl : kvs.length = (ks m).length := by
    have := congrArg List.length hk
    simpa using this
  refine for_W walk_keys (fun i σ H => ∃ s, forD F ((ks m).drop i) s KK ∧ Inv s σ H) ⟨s0, by simpa using hf, h0⟩ (fun i σ H _ ⟨s, _, h⟩ => hrd s σ H h) ?_ ?_
  · rintro i v σ H H' hi ⟨s, hf, h⟩ ⟨rfl, k, u, hk', rfl⟩
    obtain ⟨hn2, ek⟩ := keys_at hsv hk hk'
    rw [List.drop_eq_getElem_cons hn2] at hf
    rw [ek]
    exact hs _ s σ H' _ h hf
  · rintro σ H ⟨s, hf, h⟩
    rw [hl, List.drop_length] at hf
    exact hd s σ H hf h
end
end RC

namespace RC
open PySem PySem.Spec PyProof.Rows L2
section
variable {K : PySem.W.Frag} {α β : Type} {e : α → PyData} {Rs : List Res} {H : Hp} {Q : VK} {v w : V} {p : Addr} {σ : L2.St}
/-! ### a number or None -/
theorem isNo_O (x : Option Int) : isNo (eO eI x) = x.isNone := by cases x <;> rfl
theorem v_isO {x : Option Int} (h : Dq K H v (eO eI x)) (k : Q (.bl x.isNone) H) : rIsN v .non H Q := v_isNa h (by rw [isNo_O]; exact k)
theorem v_notO {x : Option Int} (h : Dq K H v (eO eI x)) (k : Q (.bl (!x.isNone)) H) : rNotN v .non H Q := v_notNa h (by rw [isNo_O]; exact k)
theorem eqv_O (x y : Option Int) : PyData.eqv (eO eI x) (eO eI y) = decide (x = y) := by
  cases x with
  | none => cases y <;> simp [eO, PyData.eqv]
  | some a =>
    cases y with
    | none => simp [eO, PyData.eqv]
    | some b =>
      by_cases z : a = b <;> simp [eO, PyData.eqv, z]
theorem shaped_O (x : Option Int) : EqOk (eO eI x) := by cases x <;> rfl
theorem v_eqO {x y : Option Int} (h1 : Dq K H v (eO eI x)) (h2 : Dq K H w (eO eI y)) (k : Q (.bl (decide (x = y))) H) : uEq K v w H Q := v_eqq h1 h2 (shaped_O x) (shaped_O y) (by rw [eqv_O]; exact k)
theorem v_neO {x y : Option Int} (h1 : Dq K H v (eO eI x)) (h2 : Dq K H w (eO eI y)) (k : Q (.bl (!decide (x = y))) H) : uNe K v w H Q := v_neq h1 h2 (shaped_O x) (shaped_O y) (by rw [eqv_O]; exact k)
/-! ### lists of numbers, equal or not -/
theorem eqvA_ints : ∀ xs ys : List Int, PyData.eqvAll (xs.map eI) (ys.map eI) = decide (xs = ys)
  | [], [] => rfl
  | [], y :: ys => by simp [PyData.eqvAll]
  | x :: xs, [] => by simp [PyData.eqvAll]
  | x :: xs, y :: ys => by
    have ih := eqvA_ints xs ys
    simp only [List.map_cons, PyData.eqvAll, ih]
    by_cases z : x = y
    · subst z
      simp [PyData.eqv]
    · simp [PyData.eqv, z]
theorem eqv_LI (xs ys : List Int) : PyData.eqv (eL eI xs) (eL eI ys) = decide (xs = ys) := eqvA_ints xs ys
theorem canL_ints : ∀ xs : List Int, PyData.canLayAll0 (xs.map eI) = true
  | [] => rfl
  | x :: xs => by
    simp only [List.map_cons, PyData.canLayAll0, canL_ints xs, Bool.and_true]
    rfl
theorem depA_ints : ∀ xs : List Int, PyData.depthAll (xs.map eI) = 0
  | [] => rfl
  | x :: xs => by
    simp only [List.map_cons, PyData.depthAll, depA_ints xs]
    rfl
theorem shaped_LI (xs : List Int) : EqOk (eL eI xs) := by
  show SeqAt.shaped (.list (xs.map eI)) = true
  unfold SeqAt.shaped
  rw [Bool.and_eq_true]
  refine ⟨?_, decide_eq_true ?_⟩
  · simp only [PyData.canLay0]
    exact canL_ints xs
  · simp only [PyData.depth, depA_ints]
    omega
theorem v_eqLI {xs ys : List Int} (h1 : Dq K H v (eL eI xs)) (h2 : Dq K H w (eL eI ys)) (k : Q (.bl (decide (xs = ys))) H) : uEq K v w H Q := v_eqq h1 h2 (shaped_LI xs) (shaped_LI ys) (by rw [eqv_LI]; exact k)
theorem v_neLI {xs ys : List Int} (h1 : Dq K H v (eL eI xs)) (h2 : Dq K H w (eL eI ys)) (k : Q (.bl (!decide (xs = ys))) H) : uNe K v w H Q := v_neq h1 h2 (shaped_LI xs) (shaped_LI ys) (by rw [eqv_LI]; exact k)
/-- data with dicts that are equal -/
theorem v_eqW {d : PyData} (h1 : Dn K H v d) (h2 : Dn K H w d) (ok : dOk d ∧ d.depth ≤ 60) (k : Q (.bl true) H) : uEqQ K v w H Q := .inr ⟨d, h1, h2, ok.1, ok.2, k⟩
theorem v_neW {d : PyData} (h1 : Dn K H v d) (h2 : Dn K H w d) (ok : dOk d ∧ d.depth ≤ 60) (k : Q (.bl false) H) : uNeQ K v w H Q := .inr ⟨d, h1, h2, ok.1, ok.2, k⟩
theorem v_eqQ0 (k : uEq K v w H Q) : uEqQ K v w H Q := .inl k
theorem v_neQ0 (k : uNe K v w H Q) : uNeQ K v w H Q := .inl k
/-! ### max -/
def mxI : List Int → Option Int
  | [] => none
  | x :: xs => some (xs.foldl max x)
theorem foldl_max : ∀ (xs : List Int) (a : Int), a ≤ xs.foldl max a ∧ (∀ y ∈ xs, y ≤ xs.foldl max a) ∧ (xs.foldl max a = a ∨ xs.foldl max a ∈ xs)
  | [], a => ⟨by simp, by simp, by simp⟩
  | x :: xs, a => by
    obtain ⟨h1, h2, h3⟩ := foldl_max xs (max a x)
    simp only [List.foldl_cons, List.mem_cons, forall_eq_or_imp]
    refine ⟨by omega, ⟨by omega, h2⟩, ?_⟩
    rcases h3 with h3 | h3
    · rw [h3]
      rcases Int.le_total a x with z | z
      · exact .inr (.inl (by omega))
      · exact .inl (by omega)
    · exact .inr (.inr h3)
theorem mxI_ok {xs : List Int} {m : Int} (h : mxI xs = some m) : m ∈ xs ∧ ∀ y ∈ xs, y ≤ m := by
  cases xs with
  | nil => cases h
  | cons x xs =>
    obtain ⟨h1, h2, h3⟩ := foldl_max xs x
    have h : xs.foldl max x = m := Option.some.inj h
    subst h
    refine ⟨?_, ?_⟩
    · rcases h3 with h3 | h3
      · rw [h3]
        exact List.mem_cons_self
      · exact List.mem_cons_of_mem _ h3
    · intro y hy
      rcases List.mem_cons.mp hy with rfl | hy
      · exact h1
      · exact h2 y hy
theorem mxI_eq {xs : List Int} {m : Int} (h1 : m ∈ xs) (h2 : ∀ y ∈ xs, y ≤ m) : mxI xs = some m := by
  cases e : mxI xs with
  | none =>
    cases xs with
    | nil => cases h1
    | cons x xs => cases e
  | some k =>
    obtain ⟨a, b⟩ := mxI_ok e
    have := b m h1
    have := h2 k a
    congr 1
    omega
theorem v_max {xs : List Int} {m : Int} (h : Dq K H v (eL eI xs)) (e : mxI xs = some m) (k : Q (.int m) H) : rMax K [v] H Q := by
  obtain ⟨a, rfl, hs⟩ := flI.lst h
  have hm := mxI_ok e
  refine ⟨a, xs, rfl, hs, List.length_pos_of_mem hm.1, fun z hz hle => ?_⟩
  have := hm.2 z hz
  have := hle m hm.1
  have : z = m := by omega
  subst this
  exact k
/-! ### how many are true -/
theorem cnt_bl (b : Bool) : ∀ bs : List Bool, (bs.map V.bl).countP (fun z => eqV z (.bl b)) = bs.count b
  | [] => rfl
  | x :: bs => by
    simp only [List.map_cons, List.countP_cons, List.count_cons, cnt_bl b bs]
    cases x <;> cases b <;> rfl
theorem flat_bls : ∀ bs : List Bool, (bs.map V.bl).all flatV = true
  | [] => rfl
  | x :: bs => by
    rw [List.map_cons, List.all_cons, flat_bls bs]
    rfl
theorem v_cntB {bs : List Bool} {b : Bool} (h : Dq K H v (eL eB bs)) (k : Q (.int (bs.count b : Nat)) H) : rCntV K v [.bl b] H Q := by
  obtain ⟨a, rfl, hs⟩ := flB.lst h
  exact ⟨a, bs.map V.bl, .bl b, rfl, rfl, hs, rfl, flat_bls bs, by rw [cnt_bl]; exact k⟩
/-! ### insert -/
def rInsert : V → List V → Hp → VK → Prop := fun x vs H Q => ∃ (l : Addr) (xs : List V) (i : Int) (y : V), x = .ref l ∧ vs = [.int i, y] ∧ H l = some (.lst xs) ∧ xs.length < sizeLine ∧ 0 ≤ i ∧ i < 2 ^ 63 ∧ Q .non (upd H l (.lst (xs.take i.toNat ++ [y] ++ xs.drop i.toNat)))
theorem mt_insertR {X : Cx} : MtR X "list.insert" rInsert := mt_insert
def insI (xs : List α) (i : Int) (x : α) : List α := xs.take i.toNat ++ [x] ++ xs.drop i.toNat
theorem v_ins {xs : List α} {y : V} {x : α} {i : Int} (S : M Rs H) (j : Nat) (hj : Rs[j]? = some (acR K p (xs.map e))) (h : EnF Rs (fun F => Dq K F y (e x))) (hz : xs.length < 100000) (hi : 0 ≤ i ∧ i < 2 ^ 63) (k : ∀ H', M (acR K p ((insI xs i x).map e) :: Rs.eraseIdx j) H' → Q .non H') :
    rInsert (.ref p) [.int i, y] H Q := by
  have S0 : M (da K y (e x) :: Rs) H := S.addA h
  have S1 : M (acR K p (xs.map e) :: da K y (e x) :: Rs.eraseIdx j) H := by
    have := S0.at (j + 1) (by simpa using hj)
    simpa using this
  obtain ⟨vs, S2⟩ := S1.ex
  have S3 := S2.sp
  have hl : vs.length = xs.length := by
    have := (S3.gotAA 1 rfl).len
    simpa using this
  refine ⟨p, vs, i, y, rfl, rfl, S3.got 0 rfl, Nat.lt_of_lt_of_le (by omega) (show 100000 ≤ sizeLine by decide), hi.1, hi.2, k _ ?_⟩
  have S4 : M (pt p (.lst (vs.take i.toNat ++ [y] ++ vs.drop i.toNat)) :: daA K vs (xs.map e) :: da K y (e x) :: Rs.eraseIdx j) (upd H p (.lst (vs.take i.toNat ++ [y] ++ vs.drop i.toNat))) := S3.putAt 0 rfl
  obtain ⟨F, L, ⟨l1, l2, rfl, a1, l3, l4, rfl, ⟨rfl, q⟩, l5, l6, rfl, ⟨rfl, d⟩, b⟩, mm⟩ := S4
  refine ⟨F, _, ⟨l1, l6, rfl, ⟨_, l1, [], by simp, a1, rfl, ?_⟩, b⟩, mm⟩
  unfold insI
  rw [List.map_append, List.map_append, List.map_take, List.map_drop]
  exact ((q.takeA _).app (.cons d .nil)).app (q.dropA _)
theorem M.tyA {xs : List α} {φ : Prop} (S : M Rs H) (j : Nat) (hj : Rs[j]? = some (da K v (eL e xs))) (k : φ) : tyV K "list" v H ∧ φ := by
  have h := S.gotA j hj
  cases h with
  | lst h q => exact ⟨.inl ⟨rfl, _, h⟩, k⟩
def KeyK (R : It → Hp → Prop) : VK := fun x H1 => ∃ d o, x = .ref d ∧ ((∃ kvs, H1 d = some (.frz o (.dK kvs)) ∧ R (Itk d o kvs) H1) ∨ ∃ kvs, H1 d = some (.frz o (.dT kvs)) ∧ R (Itkt d o kvs) H1)
theorem g_iKeys {td : TE} {R : It → Hp → Prop} (k : td σ H (KeyK R)) : iKeys td σ H R := k
theorem v_itK {R : It → Hp → Prop} {od : Obj} {kvs : List (Key × V)} (ev : v = .ref p) (h : H p = some (.frz od (.dK kvs))) (k : R (Itk p od kvs) H) : KeyK R v H := ⟨p, od, ev, .inl ⟨kvs, h, k⟩⟩
/-! ### a comprehension over a text's signs; in -/
theorem lc_str {te : TE} {tt : TT} {g : TG} {ws : List Nat} {F : Str → (Option β → Prop) → Prop} {e' : β → PyData} {z : Str} {KK : List β → Prop} (hf : (strL z).length ≤ 100000 ∧ lcD F (strL z) [] KK) (S : M Rs H)
    (hs : ∀ x (acc : List β) E H (kk : Option β → Prop) (N : Hp → Prop), (acc.map e').length < 100000 → M (acR K E (acc.map e') :: Rs) H → F x kk →
      (∀ y H, kk (some y) → M (acR K E (acc.map e' ++ [e' y]) :: Rs) H → N H) → (∀ H, kk none → M (acR K E (acc.map e') :: Rs) H → N H) → g (.str x) (wipe σ ws) H fun σ2 H2 => wipe σ2 ws = wipe σ ws ∧ tt σ2 H2 fun b H3 =>
      if b = true then te σ2 H3 (LcK N E) else N H3)
    (hd : ∀ E (acc : List β) H, KK acc → M (acR K E (acc.map e') :: Rs) H → Q (.ref E) H) : LcW (Its z) g tt te ws σ Q H := by
  obtain ⟨hz, hf⟩ := hf
  have hl : (strL z).length = z.cps.size := by simp [strL]
  refine lc_X walk_str (fun E i H => ∃ acc, lcD F ((strL z).drop i) acc KK ∧ acc.length ≤ i ∧ M (acR K E (acc.map e') :: Rs) H) (fun E hE => ⟨[], by simpa using hf, Nat.le_refl _, acR_nil (S.new hE)⟩) (fun E i H _ _ => trivial) ?_ ?_
  · rintro E i v H H' hi ⟨acc, hf, ha, S⟩ ⟨rfl, c, hc, rfl⟩
    have hi2 : i < (strL z).length := by rw [hl]; exact hi
    rw [List.drop_eq_getElem_cons hi2] at hf
    have e : (strL z)[i] = ⟨#[c]⟩ := by
      have : (strL z)[i]? = some ⟨#[c]⟩ := by
        unfold strL
        rw [List.getElem?_map, Array.getElem?_toList, hc]
        rfl
      exact Option.some.inj ((List.getElem?_eq_getElem hi2).symm.trans this)
    rw [e] at hf
    refine hs _ acc E H' _ _ (by rw [List.length_map]; omega) S hf (fun y H hk S => ⟨acc ++ [y], hk, by rw [List.length_append]; simpa using ha, by rw [List.map_append]; exact S⟩) (fun H hk S => ⟨acc, ?_, by omega, S⟩)
    simpa using hk
  · rintro E H ⟨acc, hf, ha, S⟩
    rw [← hl, List.drop_length] at hf
    exact hd E acc H hf S
theorem inV_int {n : Int} : ∀ xs : List Int, inV (.int n) (xs.map V.int) = decide (n ∈ xs)
  | [] => rfl
  | x :: xs => by
    have h := inV_int (n := n) xs
    unfold inV at h ⊢
    rw [List.map_cons, List.any_cons, h]
    show (decide (x = n) || decide (n ∈ xs)) = decide (n ∈ x :: xs)
    by_cases z : x = n
    · simp [z]
    · have : ¬ n = x := fun q => z q.symm
      simp [z, this]
theorem flat_ints : ∀ xs : List Int, (xs.map V.int).all flatV = true
  | [] => rfl
  | x :: xs => by rw [List.map_cons, List.all_cons, flat_ints xs]; rfl
theorem v_inLI {n : Int} {xs : List Int} (h : Dq K H v (eL eI xs)) (k : Q (.bl (decide (n ∈ xs))) H) : uIn K (.int n) v H Q := by
  obtain ⟨a, rfl, hs⟩ := flI.lst h
  exact .inl ⟨a, _, rfl, .inl hs, rfl, flat_ints xs, by rw [inV_int]; exact k⟩
theorem v_ninLI {n : Int} {xs : List Int} (h : Dq K H v (eL eI xs)) (k : Q (.bl (!decide (n ∈ xs))) H) : uNotIn K (.int n) v H Q := by
  obtain ⟨a, rfl, hs⟩ := flI.lst h
  exact .inl ⟨a, _, rfl, .inl hs, rfl, flat_ints xs, by rw [inV_int]; exact k⟩
theorem any_mem {s : Str} (xs : List Str) : (xs.any fun y => decide (y = s)) = decide (s ∈ xs) := by
  rw [Bool.eq_iff_iff]
  simp [List.any_eq_true]
theorem v_inLS {s : Str} {xs : List Str} (h : Dq K H v (eL eS xs)) (k : Q (.bl (decide (s ∈ xs))) H) : uIn K (.str s) v H Q := by
  obtain ⟨a, rfl, hs⟩ := flS.lst h
  exact v_inT (.inl hs) (by rw [any_mem]; exact k)
theorem v_ninLS {s : Str} {xs : List Str} (h : Dq K H v (eL eS xs)) (k : Q (.bl (!decide (s ∈ xs))) H) : uNotIn K (.str s) v H Q := by
  obtain ⟨a, rfl, hs⟩ := flS.lst h
  exact v_ninT (.inl hs) (by rw [any_mem]; exact k)
theorem v_cntBc {bs : List Bool} {b : Bool} {n : Int} (h : Dq K H v (eL eB bs)) (e : ((bs.count b : Nat) : Int) = n) (k : Q (.int n) H) : rCntV K v [.bl b] H Q := v_cntB h (by rw [e]; exact k)
theorem v_ifcT {A B : Prop} {b : Bool} (h : b = true) (k : A) : if b = true then A else B := by rw [if_pos h]; exact k
theorem v_ifcF {A B : Prop} {b : Bool} (h : b = false) (k : B) : if b = true then A else B := by rw [h]; exact k
theorem v_powc {a b n : Int} (h : (0 : Int) ≤ b ∧ b ≤ 1000000 ∧ a.natAbs < 2 ^ 64) (e : a ^ b.toNat = n) (k : Q (.int n) H) : uPow (.int a) (.int b) H Q := v_pow h (by rw [e]; exact k)
theorem M.drp (S : M Rs H) (i : Nat) : M (Rs.eraseIdx i) H := by
  cases h : Rs[i]? with
  | none =>
    rw [List.eraseIdx_of_length_le (by simpa using h)]
    exact S
  | some R => exact (S.at i h).tl
end
end RC

namespace RC
open PySem PySem.Spec PyProof.Rows L2
/-! ### the plain law -/
theorem forD_inv {α β : Type} {f : α → β → (β → Prop) → Prop} (Inv : Nat → β → Prop) : ∀ {xs : List α} {s : β} {k : β → Prop} {n : Nat}, Inv n s →
    (∀ (i : Nat) x s (kk : β → Prop), xs[i]? = some x → Inv (n + i) s → (∀ s', Inv (n + i + 1) s' → kk s') → f x s kk) → (∀ s, Inv (n + xs.length) s → k s) → forD f xs s k
  | [], s, k, n, h0, _, hd => hd s h0
  | x :: xs, s, k, n, h0, hs, hd => by
    refine hs 0 x s _ rfl h0 fun s' h' => ?_
    refine forD_inv Inv (n := n + 1) h' (fun i y s kk hy hi hk => ?_) (fun s hi => hd s ?_)
    · refine hs (i + 1) y s kk (by simpa using hy) ?_ fun s' hs' => hk s' ?_
      · rw [show n + (i + 1) = n + 1 + i by omega]
        exact hi
      · rw [show n + 1 + i + 1 = n + (i + 1) + 1 by omega]
        exact hs'
    · rw [List.length_cons, show n + (xs.length + 1) = n + 1 + xs.length by omega]
      exact hi
theorem lcD_map {α β : Type} {f : α → (Option β → Prop) → Prop} {k : List β → Prop} (g : α → β) : ∀ {xs : List α} {acc : List β}, (∀ x ∈ xs, ∀ kk : Option β → Prop, kk (some (g x)) → f x kk) → k (acc ++ xs.map g) → lcD f xs acc k
  | [], acc, _, h => by simpa [lcD] using h
  | x :: xs, acc, hs, h => by
    refine hs x List.mem_cons_self _ ?_
    refine lcD_map g (fun y hy => hs y (List.mem_cons_of_mem _ hy)) ?_
    simpa using h
/-- some of what may be: each item good -/
theorem lcD_all {α β : Type} {f : α → (Option β → Prop) → Prop} {k : List β → Prop} (G : β → Prop) : ∀ {xs : List α} {acc : List β}, (∀ x ∈ xs, ∀ kk : Option β → Prop, (∀ y, G y → kk (some y)) → f x kk) → (∀ y ∈ acc, G y) →
    (∀ ys, (∀ y ∈ ys, G y) → ys.length = acc.length + xs.length → k ys) → lcD f xs acc k
  | [], acc, _, ha, h => h acc ha rfl
  | x :: xs, acc, hs, ha, h => by
    refine hs x List.mem_cons_self _ fun y hy => ?_
    refine lcD_all G (fun z hz => hs z (List.mem_cons_of_mem _ hz)) (fun z hz => ?_) fun ys hys hl => h ys hys ?_
    · rcases List.mem_append.mp hz with hz | hz
      · exact ha z hz
      · have : z = y := by simpa using hz
        rw [this]
        exact hy
    · rw [hl]
      simp
      omega
def GN (s : Str) : Prop := 1 ≤ s.length ∧ s.length ≤ 8 ∧ ∀ c ∈ s.cps.toList, 97 ≤ c ∧ c ≤ 122
def GC (ns : List Int) : Prop := ns.length ≤ 48 ∧ ∀ n ∈ ns, 0 ≤ n ∧ n ≤ 999
theorem letters_mem {c : Nat} (h : 97 ≤ c ∧ c ≤ 122) : c ∈ ("abcdefghijklmnopqrstuvwxyz" : Str).cps.toList := by
  have key : ∀ i : Fin 26, (97 + i.val) ∈ ("abcdefghijklmnopqrstuvwxyz" : Str).cps.toList := by decide +kernel
  have := key ⟨c - 97, by omega⟩
  rwa [show 97 + (c - 97) = c by omega] at this
theorem tk {n : Int} {k : Int → Prop} (h : 0 < n ∧ n < 2 ^ 62) (g : ∀ v, 0 ≤ v → v < n → k v) : takeD n k := ⟨h, g⟩
theorem atI_ex {α : Type} {xs : List α} {i : Int} (h0 : 0 ≤ i) (h1 : i < xs.length) : ∃ x ∈ xs, atI xs i = some x := by
  have hl : i.toNat < xs.length := by omega
  exact ⟨xs[i.toNat], List.getElem_mem hl, atI_int h0 (List.getElem?_eq_getElem hl)⟩
theorem rng_mem {n x : Int} (h : x ∈ rng n) : 0 ≤ x ∧ x < n := by
  unfold rng at h
  obtain ⟨i, hi, rfl⟩ := List.mem_map.mp h
  have := List.mem_range.mp hi
  omega
theorem cmul {a b : Int} (h : 0 ≤ b ∧ b < 2 ^ 62) (ha : 0 ≤ a ∧ a < 2 ^ 62) : CMul a b ∨ CMulW a b := .inl (.inl ⟨by omega, by omega⟩)
theorem join_cps' : ∀ ys : List Str, (Str.join ("" : Str) ys).cps.toList = (ys.map (·.cps.toList)).flatten
  | [] => rfl
  | [x] => by
    show x.cps.toList = _
    simp
  | x :: y :: r => by
    have ih := join_cps' (y :: r)
    show ((x.cps ++ (#[] : Array Nat)) ++ (Str.join ("" : Str) (y :: r)).cps).toList = _
    rw [Array.toList_append, ih]
    simp
theorem join_cps (ys : List Str) : (Txt.join ("" : Str) ys).cps.toList = (ys.map (·.cps.toList)).flatten := by
  rw [← join_cps', ← StrLaws.glued_eq_join]
  rfl
/-- one letter -/
def G1 (c : Str) : Prop := ∃ n, c = ⟨#[n]⟩ ∧ 97 ≤ n ∧ n ≤ 122
theorem letter_at {i : Int} (h0 : 0 ≤ i) (h1 : i < 26) : ∃ c, atS ("abcdefghijklmnopqrstuvwxyz" : Str) i = some c ∧ G1 c := by
  have key : ∀ k : Fin 26, atS ("abcdefghijklmnopqrstuvwxyz" : Str) (k.val : Int) = some ⟨#[97 + k.val]⟩ := by decide +kernel
  have z := key ⟨i.toNat, by omega⟩
  have e : ((i.toNat : Nat) : Int) = i := by omega
  simp only [e] at z
  exact ⟨_, z, _, rfl, by omega, by omega⟩
theorem flat_len {ys : List Str} (h : ∀ y ∈ ys, G1 y) : ((ys.map (·.cps.toList)).flatten).length = ys.length ∧ ∀ c ∈ (ys.map (·.cps.toList)).flatten, 97 ≤ c ∧ c ≤ 122 := by
  induction ys with
  | nil => exact ⟨rfl, fun _ h => nomatch h⟩
  | cons y r ih =>
    obtain ⟨n, rfl, h1, h2⟩ := h y List.mem_cons_self
    obtain ⟨a, b⟩ := ih fun z hz => h z (List.mem_cons_of_mem _ hz)
    refine ⟨by simpa using a, fun c hc => ?_⟩
    rw [List.map_cons, List.flatten_cons] at hc
    rcases List.mem_append.mp hc with hc | hc
    · have : c = n := by simpa using hc
      omega
    · exact b c hc
theorem join_GN {ys : List Str} (h : ∀ y ∈ ys, G1 y) (h1 : 1 ≤ ys.length) (h2 : ys.length ≤ 8) : GN (Txt.join ("" : Str) ys) := by
  have e := join_cps ys
  obtain ⟨a, b⟩ := flat_len h
  have hl : (Txt.join ("" : Str) ys).length = ys.length := by
    show (Txt.join ("" : Str) ys).cps.size = _
    rw [← Array.length_toList, e, a]
  exact ⟨by omega, by omega, fun c hc => b c (by rw [← e]; exact hc)⟩
theorem sIx_int {n d : Nat} {i : Int} (h : 0 ≤ i) : HT.sIx n d (some i) = min i.toNat n := by
  have := HT.sIx_nat n d i.toNat
  rwa [show ((i.toNat : Nat) : Int) = i by omega] at this
theorem cut_hi {α : Type} {xs : List α} {i : Int} (h : 0 ≤ i) : cutL xs none (some i) = xs.take i.toNat := by
  unfold cutL
  rw [sIx_int h, HT.sIx_none, List.drop_zero, Nat.sub_zero]
  rcases Nat.le_total i.toNat xs.length with z | z
  · rw [Nat.min_eq_left z]
  · rw [Nat.min_eq_right z, List.take_of_length_le (Nat.le_refl _), List.take_of_length_le z]
theorem cut_lo {α : Type} {xs : List α} {i : Int} (h : 0 ≤ i) : cutL xs (some i) none = xs.drop i.toNat := by
  unfold cutL
  rw [sIx_int h, HT.sIx_none]
  rcases Nat.le_total i.toNat xs.length with z | z
  · rw [Nat.min_eq_left z, List.take_of_length_le]
    rw [List.length_drop]
    exact Nat.le_refl _
  · rw [Nat.min_eq_right z, List.drop_of_length_le z, List.drop_of_length_le (Nat.le_refl _), List.take_nil]
def GNb (s : Str) : Bool := decide (1 ≤ s.length) && (decide (s.length ≤ 8) && s.cps.toList.all fun c => decide (97 ≤ c) && decide (c ≤ 122))
theorem GNb_ok {s : Str} (h : GNb s = true) : GN s := by
  unfold GNb at h
  simp only [Bool.and_eq_true, decide_eq_true_eq, List.all_eq_true] at h
  exact ⟨h.1, h.2.1, h.2.2⟩
def words31 : List Str := [("none" : Str), ("log" : Str), ("full" : Str), ("step" : Str), ("wide" : Str), ("a" : Str), ("ab" : Str), ("files" : Str), ("run" : Str), ("put" : Str), ("gone" : Str), ("moments" : Str)]
theorem words_ok : ∀ w ∈ words31, GN w := by
  have key : (words31.all GNb) = true := by decide +kernel
  intro w hw
  exact GNb_ok (List.all_eq_true.mp key w hw)
structure GF (m : List (Str × List Int)) : Prop where
  nd : (ks m).Nodup
  nm : ∀ q ∈ m, GN q.1 ∧ GC q.2
  ln : m.length ≤ 8
theorem nd_le {α : Type} [DecidableEq α] : ∀ {xs ys : List α}, xs.Nodup → (∀ x ∈ xs, x ∈ ys) → xs.length ≤ ys.length
  | [], _, _, _ => Nat.zero_le _
  | x :: xs, ys, nd, h => by
    obtain ⟨h1, h2⟩ := List.nodup_cons.mp nd
    have := nd_le (ys := ys.erase x) h2 fun z hz => (List.mem_erase_of_ne (fun e => h1 (by rw [← e]; exact hz))).mpr (h z (List.mem_cons_of_mem _ hz))
    rw [List.length_erase_of_mem (h x List.mem_cons_self)] at this
    have := List.length_pos_of_mem (h x List.mem_cons_self)
    rw [List.length_cons]
    omega
theorem canLay_ints' : ∀ ns : List Int, PyData.canLayAll0 (ns.map PyData.int) = true
  | [] => rfl
  | n :: r => by simp [PyData.canLayAll0, PyData.canLay0, canLay_ints' r]
theorem depth_ints' : ∀ ns : List Int, PyData.depthAll (ns.map PyData.int) = 0
  | [] => rfl
  | n :: r => by simp [PyData.depthAll, PyData.depth, depth_ints' r]
theorem shaped_ints' (ns : List Int) : SeqAt.shaped (eL eI ns) = true := by
  unfold SeqAt.shaped eL
  rw [Bool.and_eq_true]
  refine ⟨by simpa [PyData.canLay0] using canLay_ints' ns, decide_eq_true ?_⟩
  simp only [PyData.depth]
  rw [depth_ints']
  decide
theorem GF.nil : GF [] := ⟨List.nodup_nil, (fun _ h => nomatch h), by decide⟩
theorem lk_mem {κ γ : Type} [DecidableEq κ] {m : List (κ × γ)} {n : κ} {x : γ} (h : lk m n = some x) : (n, x) ∈ m := by
  unfold lk at h
  cases e : m.find? fun p => decide (p.1 = n) with
  | none => rw [e] at h; cases h
  | some q =>
    rw [e] at h
    have h1 := List.mem_of_find?_eq_some e
    have h2 : q.1 = n := by simpa using List.find?_some e
    cases h
    rw [← h2]
    exact h1
theorem lk_some {κ γ : Type} [DecidableEq κ] {m : List (κ × γ)} {n : κ} (h : n ∈ ks m) : ∃ x, lk m n = some x := by
  induction m with
  | nil => cases h
  | cons q m ih =>
    rw [lk_cons]
    by_cases z : q.1 = n
    · exact ⟨_, if_pos z⟩
    · rw [if_neg z]
      exact ih ((List.mem_cons.mp h).resolve_left fun e => z e.symm)
theorem pk_keys {κ γ : Type} [DecidableEq κ] {m : List (κ × γ)} {n : κ} {x : γ} : ks (pk m n x) = if (lk m n).isSome then ks m else ks m ++ [n] := by
  unfold pk
  rw [any_lk]
  split
  · unfold ks
    rw [List.map_map]
    refine List.map_congr_left fun q _ => ?_
    show (if q.1 = n then (q.1, x) else q).1 = q.1
    split <;> rfl
  · simp [ks]
theorem not_mem_of_lk {κ γ : Type} [DecidableEq κ] {m : List (κ × γ)} {n : κ} (h : lk m n = none) : n ∉ ks m := fun z => by
  obtain ⟨x, e⟩ := lk_some z
  rw [h] at e
  cases e
theorem GF.put {m : List (Str × List Int)} {n : Str} {ns : List Int} (g : GF m) (hn : GN n) (hc : GC ns) (hl : (lk m n).isSome = true ∨ m.length < 8) : GF (pk m n ns) := by
  refine ⟨?_, fun q hq => ?_, ?_⟩
  · rw [pk_keys]
    cases e : lk m n with
    | none =>
      simp only [Option.isSome, Bool.false_eq_true, if_false]
      exact List.nodup_append.mpr ⟨g.nd, by simp, fun a ha b hb z => not_mem_of_lk e (by rw [← show b = n by simpa using hb, ← z]; exact ha)⟩
    | some x => exact g.nd
  · unfold pk at hq
    split at hq
    · obtain ⟨p, hp, rfl⟩ := List.mem_map.mp hq
      have := g.nm p hp
      split
      · exact ⟨this.1, hc⟩
      · exact this
    · rcases List.mem_append.mp hq with hq | hq
      · exact g.nm q hq
      · rw [show q = (n, ns) by simpa using hq]
        exact ⟨hn, hc⟩
  · unfold pk
    rw [any_lk]
    have := g.ln
    split
    · rw [List.length_map]
      exact this
    · rename_i z
      rw [List.length_append]
      simp
      rcases hl with h | h
      · exact absurd h z
      · omega
/-- what is told of all files -/
def cont (m : List (Str × List Int)) : List (Str × List Int) := (srtS' (ks m)).map fun n => (n, (lk m n).getD [])
theorem dcD_nd {f : Str → List (Str × List Int) → (Option (Str × List Int) → Prop) → Prop} {k : List (Str × List Int) → Prop} (g : Str → List Int) : ∀ {xs : List Str} {acc : List (Str × List Int)}, xs.Nodup → (∀ x ∈ xs, x ∉ ks acc) →
    (∀ x ∈ xs, ∀ acc (kk : Option (Str × List Int) → Prop), lk acc x = none → kk (some (x, g x)) → f x acc kk) → k (acc ++ xs.map fun x => (x, g x)) → dcD f xs acc k
  | [], acc, _, _, _, h => by simpa [dcD] using h
  | x :: xs, acc, nd, hn, hs, h => by
    obtain ⟨n1, n2⟩ := List.nodup_cons.mp nd
    have hx : lk acc x = none := by
      cases e : lk acc x with
      | none => rfl
      | some y => exact absurd (List.mem_map.mpr ⟨(x, y), lk_mem e, rfl⟩) (hn x List.mem_cons_self)
    refine hs x List.mem_cons_self acc _ hx ?_
    have e1 : pk acc x (g x) = acc ++ [(x, g x)] := by
      unfold pk
      rw [any_lk, hx]
      rfl
    show dcD f xs (pk acc x (g x)) k
    rw [e1]
    refine dcD_nd g n2 (fun y hy hz => ?_) (fun y hy => hs y (List.mem_cons_of_mem _ hy)) (by simpa using h)
    unfold ks at hz
    rw [List.map_append] at hz
    rcases List.mem_append.mp hz with hz | hz
    · exact hn y (List.mem_cons_of_mem _ hy) hz
    · rw [show y = x by simpa using hz] at hy
      exact n1 hy
theorem srt_nd {xs : List Str} (h : xs.Nodup) : (srtS' xs).Nodup := (srtS_perm xs).nodup_iff.mpr h
theorem srt_len (xs : List Str) : (srtS' xs).length = xs.length := (srtS_perm xs).length_eq
theorem ks_len {κ γ : Type} (m : List (κ × γ)) : (ks m).length = m.length := by simp [ks]
theorem srt_mem {xs : List Str} {x : Str} (h : x ∈ srtS' xs) : x ∈ xs := (srtS_perm xs).mem_iff.mp h
theorem cont_keys (m : List (Str × List Int)) : ks (cont m) = srtS' (ks m) := by
  unfold ks cont
  rw [List.map_map]
  exact List.map_id'' (fun _ => rfl) _
theorem dOf_nd {m acc : List (Str × List Int)} (h : (ks (acc ++ m)).Nodup) : m.foldl (fun acc q => pk acc q.1 q.2) acc = acc ++ m := by
  induction m generalizing acc with
  | nil => simp
  | cons q m ih =>
    have hx : q.1 ∉ ks acc := by
      unfold ks at h ⊢
      rw [List.map_append, List.map_cons, List.nodup_append] at h
      exact fun z => h.2.2 _ z _ List.mem_cons_self rfl
    have hn : lk acc q.1 = none := by
      cases e : lk acc q.1 with
      | none => rfl
      | some y => exact absurd (List.mem_map.mpr ⟨(q.1, y), lk_mem e, rfl⟩) hx
    have e1 : pk acc q.1 q.2 = acc ++ [q] := by
      unfold pk
      rw [any_lk, hn]
      rfl
    rw [List.foldl_cons, e1, ih (by simpa using h)]
    simp
theorem dOf_cont {m : List (Str × List Int)} (g : GF m) : dOf (cont m) = cont m := by
  have := dOf_nd (m := cont m) (acc := []) (by rw [List.nil_append, cont_keys]; exact srt_nd g.nd)
  simpa [dOf] using this
theorem GN.shq {s : Str} (g : GN s) : ShQ 0 8 (.str s) := by
  refine ⟨?_, rfl, ?_, by simp [PyData.depth], ?_⟩
  · show SeqAt.shaped (.str s) = true
    unfold SeqAt.shaped
    rw [Bool.and_eq_true]
    refine ⟨?_, by simp [PyData.depth]⟩
    simp only [PyData.canLay0, PyData.strOk]
    rw [Array.all_eq_true']
    intro c hc
    have := g.2.2 c (by simpa using hc)
    exact decide_eq_true (by omega)
  · simp only [PyData.leavesShort, List.all_eq_true]
    intro c hc
    have := g.2.2 c hc
    exact decide_eq_true (by omega)
  · exact g.2.1
theorem GC.shq {ns : List Int} (g : GC ns) : ShQ 1 48 (eL eI ns) := by
  have h := ShQ.list (dp := 0) (bk := 0) (ds := ns.map eI) fun d hd => by
    obtain ⟨n, hn, rfl⟩ := List.mem_map.mp hd
    have := g.2 n hn
    exact ShQ.int (Nat.lt_of_lt_of_le (show n.natAbs < 2 ^ 10 by omega) (by decide))
  rw [List.length_map] at h
  exact h.up (Nat.le_refl _) (by have := g.1; omega)
theorem strs_shq {xs : List Str} (h : ∀ x ∈ xs, GN x) (hl : xs.length ≤ 8) : ShQ 1 72 (eL eS xs) := by
  have h := ShQ.list (dp := 0) (bk := 8) (ds := xs.map eS) fun d hd => by
    obtain ⟨n, hn, rfl⟩ := List.mem_map.mp hd
    exact (h n hn).shq
  rw [List.length_map] at h
  exact h.up (Nat.le_refl _) (by omega)
theorem nd_map {α β : Type} {f : α → β} (inj : ∀ a b, f a = f b → a = b) : ∀ {l : List α}, l.Nodup → (l.map f).Nodup
  | [], _ => List.nodup_nil
  | x :: r, h => by
    obtain ⟨h1, h2⟩ := List.nodup_cons.mp h
    rw [List.map_cons]
    refine List.nodup_cons.mpr ⟨fun z => ?_, nd_map inj h2⟩
    obtain ⟨y, hy, e⟩ := List.mem_map.mp z
    rw [inj _ _ e] at hy
    exact h1 hy
theorem dict_shq : ∀ {m : List (Str × List Int)}, (ks m).Nodup → (∀ q ∈ m, GN q.1 ∧ GC q.2) → ShQ 2 (m.length * 58) (eD iS (eL eI) m) := by
  intro m nd h
  have key : ∀ {m : List (Str × List Int)}, (∀ q ∈ m, GN q.1 ∧ GC q.2) → dOkK (m.map fun p => (kD (iS p.1), eL eI p.2)) ∧ PyData.showableKv (m.map fun p => (kD (iS p.1), eL eI p.2)) = true ∧ PyData.leavesShortKv 400 (m.map fun p => (kD (iS p.1), eL eI p.2)) = true ∧
      PyData.depthKv (m.map fun p => (kD (iS p.1), eL eI p.2)) ≤ 1 ∧ PyData.bulkKv (m.map fun p => (kD (iS p.1), eL eI p.2)) ≤ m.length * 58 := by
    intro m
    induction m with
    | nil => exact fun _ => ⟨trivial, rfl, rfl, Nat.zero_le _, Nat.zero_le _⟩
    | cons q m ih =>
      intro h
      obtain ⟨h0, h1, h2, h3, h4⟩ := ih fun z hz => h z (List.mem_cons_of_mem _ hz)
      obtain ⟨a, b⟩ := h q List.mem_cons_self
      have sa : ShQ 0 8 (kD (iS q.1)) := a.shq
      have sb := b.shq
      refine ⟨⟨sb.ok, h0⟩, ?_, ?_, ?_, ?_⟩
      · simp [PyData.showableKv, sa.sh, sb.sh, h1]
      · simp [PyData.leavesShortKv, sa.lf, sb.lf, h2]
      · simp only [List.map_cons, PyData.depthKv]
        have := sa.dp
        have := sb.dp
        omega
      · simp only [List.map_cons, PyData.bulkKv, List.length_cons]
        have := sa.bk
        have := sb.bk
        omega
  obtain ⟨h0, h1, h2, h3, h4⟩ := key h
  refine ⟨⟨?_, h0⟩, by simpa [PyData.showable, eD] using h1, by simpa [PyData.leavesShort, eD] using h2, ?_, by simpa [PyData.bulk, eD] using h4⟩
  · rw [List.map_map]
    have e : ((fun x : PyData × PyData => x.1) ∘ fun p : Str × List Int => (kD (iS p.1), eL eI p.2)) = (fun n : Str => kD (iS n)) ∘ (fun p : Str × List Int => p.1) := rfl
    rw [e, ← List.map_map]
    exact nd_map (fun a b z => injS _ _ (kD_inj z)) nd
  · simp only [eD, PyData.depth]
    omega
theorem cont_good {m : List (Str × List Int)} (g : GF m) : GF (cont m) := by
  refine ⟨by rw [cont_keys]; exact srt_nd g.nd, fun q hq => ?_, ?_⟩
  · obtain ⟨n, hn, rfl⟩ := List.mem_map.mp hq
    obtain ⟨y, hy⟩ := lk_some (srt_mem hn)
    have := g.nm _ (lk_mem hy)
    dsimp only
    rw [hy]
    exact this
  · have := g.ln
    unfold cont
    rw [List.length_map, srt_len, ks_len]
    exact this
theorem names_good {m : List (Str × List Int)} (g : GF m) : ∀ x ∈ srtS' (ks m), GN x := fun x hx => by
  obtain ⟨q, hq, rfl⟩ := List.mem_map.mp (srt_mem hx)
  exact (g.nm q hq).1
end RC

namespace RC
open PySem PySem.Spec PyProof.Rows L2
/-! ### what is told of dicts -/
section
variable {κ α β γ : Type} [DecidableEq κ]
def tr (f : α → β) (m : List (κ × α)) : List (κ × β) := m.map fun p => (p.1, f p.2)
@[simp] theorem ks_tr (f : α → β) (m : List (κ × α)) : ks (tr f m) = ks m := by simp [ks, tr]
@[simp] theorem len_tr (f : α → β) (m : List (κ × α)) : (tr f m).length = m.length := by simp [tr]
@[simp] theorem lk_nil (k : κ) : lk ([] : List (κ × α)) k = none := rfl
theorem lk_tr (f : α → β) (k : κ) : ∀ m : List (κ × α), lk (tr f m) k = (lk m k).map f
  | [] => rfl
  | p :: m => by
    show lk ((p.1, f p.2) :: tr f m) k = _
    rw [lk_cons, lk_cons, lk_tr f k m]
    split <;> rfl
theorem tr_cons (f : α → β) (p : κ × α) (m : List (κ × α)) : tr f (p :: m) = (p.1, f p.2) :: tr f m := rfl
theorem pk_tr (f : α → β) (m : List (κ × α)) (k : κ) (x : α) : pk (tr f m) k (f x) = tr f (pk m k x) := by
  unfold pk
  have e : ((tr f m).any fun p => decide (p.1 = k)) = (m.any fun p => decide (p.1 = k)) := by simp [tr, List.any_map, Function.comp_def]
  rw [e]
  split
  · simp only [tr, List.map_map]
    congr 1
    funext p
    simp only [Function.comp]
    split <;> rfl
  · simp [tr]
theorem dk_tr (f : α → β) (m : List (κ × α)) (k : κ) : dk (tr f m) k = tr f (dk m k) := by
  simp [dk, tr, List.filter_map, Function.comp_def]
theorem lk_pk (m : List (κ × α)) (k j : κ) (x : α) : lk (pk m k x) j = if j = k then some x else lk m j := by
  unfold pk
  split
  · rename_i h
    induction m with
    | nil => simp at h
    | cons p m ih =>
      rw [List.map_cons, lk_cons, lk_cons]
      by_cases z : p.1 = k
      · rw [if_pos z]
        by_cases y : j = k
        · subst y
          simp [z]
        · rw [if_neg (by rw [z]; exact fun q => y q.symm), if_neg y, if_neg (by rw [z]; exact fun q => y q.symm)]
          by_cases hh : (m.any fun p => decide (p.1 = k)) = true
          · rw [ih hh, if_neg y]
          · have : m.map (fun p => if p.1 = k then (p.1, x) else p) = m := by
              rw [List.map_congr_left (g := id), List.map_id]
              intro q hq
              have : ¬ q.1 = k := fun z => hh (List.any_eq_true.mpr ⟨q, hq, by simpa using z⟩)
              simp [this]
            rw [this]
      · rw [if_neg z]
        have hh : (m.any fun p => decide (p.1 = k)) = true := by simpa [z] using h
        by_cases y : p.1 = j
        · rw [if_pos y, if_pos y, if_neg (fun q => z (y.trans q))]
        · rw [if_neg y, if_neg y, ih hh]
  · rename_i h
    induction m with
    | nil =>
      show lk ([] ++ [(k, x)]) j = _
      rw [List.nil_append, lk_cons]
      by_cases y : j = k
      · subst y; simp
      · rw [if_neg (fun q => y q.symm), if_neg y]
    | cons p m ih =>
      have hp : ¬ p.1 = k := fun z => h (by simp [z])
      have hm : ¬ (m.any fun p => decide (p.1 = k)) = true := fun z => h (by rw [List.any_cons, z]; simp)
      rw [List.cons_append, lk_cons, lk_cons, ih hm]
      by_cases y : p.1 = j
      · rw [if_pos y, if_pos y, if_neg (fun q => hp (y.trans q))]
      · rw [if_neg y, if_neg y]
theorem lk_dk (m : List (κ × α)) (k j : κ) : lk (dk m k) j = if j = k then none else lk m j := by
  induction m with
  | nil => simp [dk]
  | cons p m ih =>
    unfold dk at ih ⊢
    rw [List.filter_cons]
    by_cases z : p.1 = k
    · rw [if_neg (by simp [z]), ih, lk_cons]
      by_cases y : j = k
      · rw [if_pos y, if_pos y]
      · rw [if_neg y, if_neg y, if_neg (fun q => y (q.symm.trans z))]
    · rw [if_pos (by simp [z]), lk_cons, lk_cons, ih]
      by_cases y : p.1 = j
      · rw [if_pos y, if_pos y, if_neg (fun q => z (y.trans q))]
      · rw [if_neg y, if_neg y]
theorem ks_dk (m : List (κ × α)) (k : κ) : ks (dk m k) = (ks m).filter fun q => decide (q ≠ k) := by
  simp only [ks, dk, List.filter_map]
  rfl
theorem mem_of_lk {m : List (κ × α)} {k : κ} {x : α} (h : lk m k = some x) : k ∈ ks m := List.mem_map.mpr ⟨_, lk_mem h, rfl⟩
theorem lk_iff {m : List (κ × α)} {k : κ} : (lk m k).isSome = true ↔ k ∈ ks m := by
  constructor
  · intro h
    obtain ⟨x, hx⟩ := Option.isSome_iff_exists.mp h
    exact mem_of_lk hx
  · intro h
    obtain ⟨x, hx⟩ := lk_some h
    rw [hx]
    rfl
theorem lk_none_iff {m : List (κ × α)} {k : κ} : lk m k = none ↔ k ∉ ks m := by
  constructor
  · exact not_mem_of_lk
  · intro h
    cases e : lk m k with
    | none => rfl
    | some x => exact absurd (mem_of_lk e) h
theorem pk_new {m : List (κ × α)} {k : κ} {x : α} (h : lk m k = none) : pk m k x = m ++ [(k, x)] := by
  unfold pk
  rw [any_lk, h]
  rfl
theorem ks_pk_old {m : List (κ × α)} {k : κ} {x : α} (h : (lk m k).isSome = true) : ks (pk m k x) = ks m := by rw [pk_keys, if_pos h]
theorem nd_pk {m : List (κ × α)} {k : κ} {x : α} (h : (ks m).Nodup) : (ks (pk m k x)).Nodup := by
  rw [pk_keys]
  split
  · exact h
  · rename_i z
    have hn : k ∉ ks m := fun q => z (lk_iff.mpr q)
    exact List.nodup_append.mpr ⟨h, by simp, fun a ha b hb => by
      have : b = k := by simpa using hb
      rw [this]
      exact fun e => hn (e ▸ ha)⟩
theorem nd_dk {m : List (κ × α)} {k : κ} (h : (ks m).Nodup) : (ks (dk m k)).Nodup := by
  rw [ks_dk]
  exact h.sublist List.filter_sublist
theorem lk_of_mem {m : List (κ × α)} (nd : (ks m).Nodup) {p : κ × α} (h : p ∈ m) : lk m p.1 = some p.2 := by
  induction m with
  | nil => cases h
  | cons q m ih =>
    have nd' := List.nodup_cons.mp (show (q.1 :: ks m).Nodup from nd)
    rw [lk_cons]
    rcases List.mem_cons.mp h with rfl | h
    · rw [if_pos rfl]
    · have hq : ¬ q.1 = p.1 := fun z => nd'.1 (by rw [z]; exact List.mem_map.mpr ⟨p, h, rfl⟩)
      rw [if_neg hq, ih nd'.2 h]
theorem mem_pk {m : List (κ × α)} {k : κ} {x : α} {q : κ × α} (h : q ∈ pk m k x) : q = (k, x) ∨ (q ∈ m ∧ q.1 ≠ k) ∨ q ∈ m := by
  unfold pk at h
  split at h
  · obtain ⟨p, hp, e⟩ := List.mem_map.mp h
    split at e
    · rename_i z
      left
      rw [← e, z]
    · right; right
      rw [← e]
      exact hp
  · rcases List.mem_append.mp h with h | h
    · exact .inr (.inr h)
    · left
      simpa using h
theorem mem_dk {m : List (κ × α)} {k : κ} {q : κ × α} (h : q ∈ dk m k) : q ∈ m ∧ q.1 ≠ k := by
  obtain ⟨h1, h2⟩ := List.mem_filter.mp h
  exact ⟨h1, by simpa using h2⟩
theorem dk_le (m : List (κ × α)) (k : κ) : (dk m k).length ≤ m.length := List.length_filter_le _ _
/-- two dicts without a key twice, of the same keys in order and the same values, are the same -/
theorem dict_ext {m n : List (κ × α)} (nd : (ks m).Nodup) (hk : ks m = ks n) (h : ∀ k, lk m k = lk n k) : m = n := by
  have nd2 : (ks n).Nodup := hk ▸ nd
  have hl : m.length = n.length := by
    have := congrArg List.length hk
    simpa [ks] using this
  apply List.ext_getElem hl
  intro i h1 h2
  have e1 : (ks m)[i]? = some (m[i]).1 := by simp [ks, h1]
  have e2 : (ks n)[i]? = some (n[i]).1 := by simp [ks, h2]
  rw [hk, e2] at e1
  have e3 := Option.some.inj e1
  have a := lk_of_mem nd (List.getElem_mem h1)
  have b := lk_of_mem nd2 (List.getElem_mem h2)
  rw [h, ← e3, b] at a
  exact Prod.ext e3.symm (Option.some.inj a).symm
end
/-! ### loops -/
theorem lcD_fm {α β : Type} {f : α → (Option β → Prop) → Prop} {k : List β → Prop} (g : α → Option β) : ∀ {xs : List α} {acc : List β}, (∀ x ∈ xs, ∀ kk : Option β → Prop, kk (g x) → f x kk) → k (acc ++ xs.filterMap g) → lcD f xs acc k
  | [], acc, _, h => by simpa [lcD] using h
  | x :: xs, acc, hs, h => by
    refine hs x List.mem_cons_self _ ?_
    cases e : g x with
    | none =>
      rw [List.filterMap_cons_none e] at h
      exact lcD_fm g (fun y hy => hs y (List.mem_cons_of_mem _ hy)) (by simpa using h)
    | some y =>
      rw [List.filterMap_cons_some e] at h
      refine lcD_fm g (fun y hy => hs y (List.mem_cons_of_mem _ hy)) ?_
      rw [List.append_assoc]
      exact h
theorem lcD_filter {α : Type} {f : α → (Option α → Prop) → Prop} {k : List α → Prop} (c : α → Bool) {xs : List α} (hs : ∀ x ∈ xs, ∀ kk : Option α → Prop, (if c x = true then kk (some x) else kk none) → f x kk) (h : k (xs.filter c)) : lcD f xs [] k := by
  refine lcD_fm (fun x => if c x = true then some x else none) (fun x hx kk hk => hs x hx kk ?_) ?_
  · split
    · rename_i z; rw [if_pos z] at hk; exact hk
    · rename_i z; rw [if_neg z] at hk; exact hk
  · have : xs.filterMap (fun x => if c x = true then some x else none) = xs.filter c := by
      rw [← List.filterMap_eq_filter]
      congr 1
    rw [this]
    exact h
theorem forD_fold {α β : Type} {f : α → β → (β → Prop) → Prop} (Inv : β → Prop) (g : β → α → β) : ∀ {xs : List α} {s : β} {k : β → Prop}, Inv s → (∀ x ∈ xs, ∀ s, Inv s → Inv (g s x) ∧ ∀ kk : β → Prop, kk (g s x) → f x s kk) → (Inv (xs.foldl g s) → k (xs.foldl g s)) → forD f xs s k
  | [], s, k, h0, _, hd => hd h0
  | x :: xs, s, k, h0, hs, hd => by
    obtain ⟨h1, h2⟩ := hs x List.mem_cons_self s h0
    exact h2 _ (forD_fold Inv g h1 (fun y hy => hs y (List.mem_cons_of_mem _ hy)) hd)
/-! ### sorted numbers -/
theorem srtI_perm (xs : List Int) : (srt xs).Perm xs := srt_perm xs
theorem srtI_mem {xs : List Int} {x : Int} : x ∈ srt xs ↔ x ∈ xs := (srt_perm xs).mem_iff
theorem srtI_len (xs : List Int) : (srt xs).length = xs.length := (srt_perm xs).length_eq
theorem srtI_nd {xs : List Int} (h : xs.Nodup) : (srt xs).Nodup := (srt_perm xs).nodup_iff.mpr h
theorem srt_filter (xs : List Int) (c : Int → Bool) : (srt xs).filter c = srt (xs.filter c) := srt_eq ((srt_perm xs).filter c) ((srt_sorted xs).filter c)
theorem srt_congr {xs ys : List Int} (h : xs.Perm ys) : srt xs = srt ys := srt_eq ((srt_perm xs).trans h) (srt_sorted xs)
theorem mxI_perm {xs ys : List Int} (h : xs.Perm ys) : mxI xs = mxI ys := by
  cases e : mxI ys with
  | none =>
    cases ys with
    | nil => rw [h.eq_nil]; rfl
    | cons y ys => cases e
  | some m =>
    obtain ⟨h1, h2⟩ := mxI_ok e
    exact mxI_eq (h.mem_iff.mpr h1) fun y hy => h2 y (h.mem_iff.mp hy)
theorem mxI_some {xs : List Int} (h : xs ≠ []) : ∃ m, mxI xs = some m := by
  cases xs with
  | nil => exact absurd rfl h
  | cons x xs => exact ⟨_, rfl⟩
/-! ### data that is small -/
theorem ShQ.tup {dp bk : Nat} {ds : List PyData} (h : ∀ d ∈ ds, ShQ dp bk d) : ShQ (dp + 1) (ds.length * (bk + 1)) (.tuple ds) := by
  obtain ⟨h0, h1, h2, h3, h4⟩ := ShQ.all h
  refine ⟨h0, by simpa [PyData.showable] using h1, by simpa [PyData.leavesShort] using h2, ?_, by simpa [PyData.bulk] using h4⟩
  simp only [PyData.depth]
  omega
theorem ShQ.non : ShQ 0 0 .none := ⟨trivial, rfl, rfl, by simp [PyData.depth], by simp [PyData.bulk]⟩
theorem ShQ.bl (b : Bool) : ShQ 0 0 (.bool b) := ⟨trivial, rfl, rfl, by simp [PyData.depth], by simp [PyData.bulk]⟩
theorem ShQ.opt {x : Option Int} (h : ∀ n, x = some n → n.natAbs < 2 ^ 1000) : ShQ 0 0 (eO eI x) := by
  cases x with
  | none => exact ShQ.non
  | some n => exact ShQ.int (h n rfl)
theorem ShQ.ints {ns : List Int} (h : ∀ n ∈ ns, n.natAbs < 2 ^ 1000) : ShQ 1 ns.length (eL eI ns) := by
  have := ShQ.list (dp := 0) (bk := 0) (ds := ns.map eI) (fun d hd => by
    obtain ⟨n, hn, rfl⟩ := List.mem_map.mp hd
    exact ShQ.int (h n hn))
  simpa [eL] using this
/-- words: by looking -/
def wdb (s : Str) : Bool := SeqAt.shaped (.str s) && ((PyData.str s).showable && ((PyData.str s).leavesShort 400 && decide (s.length ≤ 16)))
theorem ShQ.wd {s : Str} (h : wdb s = true) : ShQ 0 16 (.str s) := by
  simp only [wdb, Bool.and_eq_true, decide_eq_true_eq] at h
  exact ⟨h.1, h.2.1, h.2.2.1, by simp [PyData.depth], h.2.2.2⟩
end RC

namespace RC
open PySem PySem.Spec PyProof.Rows L2
local macro_rules | `(tactic| walk_at "S") => `(tactic| assumption)
local macro_rules | `(tactic| walk_at "hp") => `(tactic| first
  | assumption
  | exact M.got (by assumption) 0 rfl | exact M.got (by assumption) 1 rfl | exact M.got (by assumption) 2 rfl | exact M.got (by assumption) 3 rfl | exact M.got (by assumption) 4 rfl
  | exact M.got (by assumption) 5 rfl | exact M.got (by assumption) 6 rfl | exact M.got (by assumption) 7 rfl | exact M.got (by assumption) 8 rfl
  | exact M.gotF (by assumption) 0 rfl | exact M.gotF (by assumption) 1 rfl | exact M.gotF (by assumption) 2 rfl | exact M.gotF (by assumption) 3 rfl | exact M.gotF (by assumption) 4 rfl
  | exact M.gotF (by assumption) 5 rfl | exact M.gotF (by assumption) 6 rfl | exact M.gotF (by assumption) 7 rfl | exact M.gotF (by assumption) 8 rfl)
local macro_rules | `(tactic| walk_at "sl") => `(tactic| first
  | assumption
  | exact SqL.of (by walk_at "hp")
  | exact M.gotR (by assumption) 0 rfl | exact M.gotR (by assumption) 1 rfl | exact M.gotR (by assumption) 2 rfl | exact M.gotR (by assumption) 3 rfl)
local macro_rules | `(tactic| walk_at "mul") => `(tactic| first
  | exact Or.inl (Or.inr ⟨by decide, by decide⟩) | exact Or.inl (Or.inl ⟨by decide, by decide⟩) | exact Or.inl (Or.inr ⟨by omega, by omega⟩) | exact Or.inl (Or.inl ⟨by omega, by omega⟩))
local macro_rules | `(tactic| walk_at "sq") => `(tactic| first | assumption | exact SqT.of (by walk_at "hp"))
local macro_rules | `(tactic| walk_at "sts") => `(tactic| first
  | with_reducible refine g_asg ?_
  | with_reducible refine g_asgX ?_
  | with_reducible refine g_drop ?_
  | with_reducible refine g_ret ?_
  | with_reducible refine g_retN ?_
  | with_reducible refine g_if ?_
  | with_reducible refine g_next ?_
  | with_reducible refine g_bk ?_
  | with_reducible refine g_ct ?_
  | with_reducible refine g_augS ?_
  | with_reducible refine g_for ?_
  | with_reducible refine g_while ?_
  | with_reducible refine g_par ?_
  | ((with_reducible refine' g_aug ?hh ?kk); (case hh => exact rfl)))
local macro_rules | `(tactic| walk_at "ev1") => `(tactic| first
  | with_reducible refine g_rt ?_
  | with_reducible refine g_lc ?_
  | with_reducible refine g_iList ?_
  | with_reducible refine g_iRng1 ?_
  | with_reducible refine g_iRev ?_
  | with_reducible refine g_yes ?_
  | ((with_reducible refine' g_wipe ?hh ?kk); (case hh => exact rfl))
  | with_reducible refine g_name ?_
  | ((with_reducible refine' g_var ?hh ?kk); (case hh => exact rfl))
  | with_reducible refine g_c ?_
  | with_reducible refine g_op ?_
  | with_reducible refine g_un ?_
  | with_reducible refine g_nil ?_
  | with_reducible refine g_cons ?_
  | with_reducible refine g_cb ?_
  | with_reducible refine g_call ?_
  | with_reducible refine g_lst ?_
  | with_reducible refine g_tup ?_
  | with_reducible refine g_test ?_
  | with_reducible refine g_B ?_
  | with_reducible refine g_bl ?_
  | with_reducible refine g_int ?_
  | with_reducible refine g_and ?_
  | with_reducible refine g_or ?_
  | with_reducible refine g_not ?_
  | with_reducible refine g_andV ?_
  | with_reducible refine g_orV ?_
  | with_reducible refine g_notV ?_
  | with_reducible refine g_ifE ?_
  | with_reducible refine g_chain ?_
  | with_reducible refine g_sub ?_
  | with_reducible refine g_sl ?_
  | with_reducible refine g_noPart ?_
  | with_reducible refine g_part ?_
  | with_reducible refine g_rev ?_
  | with_reducible refine g_bm ?_
  | with_reducible refine g_bm0 ?_
  | with_reducible refine v_add ?_
  | with_reducible refine v_sub ?_
  | with_reducible refine v_iadd ?_
  | with_reducible refine v_isub ?_
  | with_reducible refine v_lt ?_
  | with_reducible refine v_le ?_
  | with_reducible refine v_gt ?_
  | with_reducible refine v_ge ?_
  | with_reducible refine v_eqI ?_
  | with_reducible refine v_neI ?_
  | with_reducible refine v_eqS ?_
  | with_reducible refine v_eqB ?_
  | with_reducible refine v_neB ?_
  | ((with_reducible refine' v_mod ?hh ?kk); (case hh => first | decide | omega))
  | ((with_reducible refine' v_mul ?hh ?kk); (case hh => walk_at "mul"))
  | ((with_reducible refine' v_imul ?hh ?kk); (case hh => first | exact Or.inr ⟨by decide, by decide⟩ | exact Or.inl ⟨by decide, by decide⟩ | exact Or.inr ⟨by omega, by omega⟩ | exact Or.inl ⟨by omega, by omega⟩))
  | ((with_reducible refine' v_div ?hh ?kk); (case hh => first | decide | exact ⟨by omega, by omega⟩))
  | ((with_reducible refine' v_idiv ?hh ?kk); (case hh => first | exact ⟨by decide, by decide⟩ | exact ⟨by omega, by omega⟩))
  | ((with_reducible refine' v_ixL ?hs ?hh ?kk); (case hs => walk_at "sl"); (case hh => exact rfl))
  | ((with_reducible refine' v_ixT ?hs ?hh ?kk); (case hs => walk_at "sq"); (case hh => exact rfl))
  | ((with_reducible refine' v_get ?hs ?h0 ?hh ?kk); (case hs => walk_at "sl"); (case h0 => decide); (case hh => exact rfl))
  | ((with_reducible refine' v_lenL ?hs ?kk); (case hs => walk_at "sl"))
  | ((with_reducible refine' v_pow ?hh ?kk); (case hh => decide +kernel))
  | with_reducible refine v_abs ?_
  | with_reducible refine v_neg ?_
  | with_reducible refine v_isN ?_
  | with_reducible refine v_notN ?_
  | with_reducible refine v_two ?_
  | with_reducible refine g_callN ?_
  | ((with_reducible refine' v_lens ?h1 ?h2 ?kk); (case h1 => exact rfl); (case h2 => exact rfl))
  | ((with_reducible refine' g_gtup ?h1 ?h2 ?kk); (case h1 => walk_at "sq"); (case h2 => exact rfl))
  | with_reducible refine g_gcons ?_
  | with_reducible refine g_gnil ?_
  | with_reducible refine v_ifNT ?_
  | with_reducible refine v_ifNF ?_
  | with_reducible refine v_ifT ?_
  | with_reducible refine v_ifF ?_)
local macro_rules | `(tactic| walk_at "ev") => `(tactic| repeat walk_at "ev1")
local macro_rules | `(tactic| walk_at "nx") => `(tactic| repeat with_reducible refine g_nx ?_)
local macro_rules | `(tactic| walk_at "st") => `(tactic| ((repeat first | with_reducible refine g_nx ?_ | with_reducible refine g_seq ?_); walk_at "sts"; walk_at "ev"))
local macro_rules | `(tactic| walk_at "go1") => `(tactic| first | with_reducible refine g_nx ?_ | with_reducible refine g_seq ?_ | walk_at "sts" | walk_at "ev1")
local macro_rules | `(tactic| walk_at "go") => `(tactic| repeat walk_at "go1")
local macro_rules | `(tactic| walk_at "sub1") => `(tactic| first
  | exact Sub.refl _ | exact Sub.nil _
  | refine Sub.cons 0 rfl ?_ | refine Sub.cons 1 rfl ?_ | refine Sub.cons 2 rfl ?_ | refine Sub.cons 3 rfl ?_ | refine Sub.cons 4 rfl ?_ | refine Sub.cons 5 rfl ?_ | refine Sub.cons 6 rfl ?_ | refine Sub.cons 7 rfl ?_
  | refine Sub.cons 8 rfl ?_ | refine Sub.cons 9 rfl ?_ | refine Sub.cons 10 rfl ?_ | refine Sub.cons 11 rfl ?_ | refine Sub.cons 12 rfl ?_ | refine Sub.cons 13 rfl ?_ | refine Sub.cons 14 rfl ?_ | refine Sub.cons 15 rfl ?_ | refine Sub.tl ?_)
local macro_rules | `(tactic| walk_at "sub") => `(tactic| (refine M.sub ?_ (by assumption); repeat walk_at "sub1"))
local macro_rules | `(tactic| walk_at "sts") => `(tactic| first
  | with_reducible refine g_sfld ?_
  | with_reducible refine g_rz ?_
  | with_reducible refine g_try ?_)
local macro_rules | `(tactic| walk_at "ev1") => `(tactic| first
  | with_reducible refine g_callW ?_
  | with_reducible refine g_meth ?_
  | with_reducible refine g_make ?_
  | with_reducible refine g_fld ?_
  | with_reducible refine g_dpop ?_
  | with_reducible refine g_callE ?_
  | with_reducible refine g_xg ?_)
abbrev bagO (x y z : Int) (cl : Addr) : HO := .lst [.int x, .int y, .int z, .ref cl]
structure BagOk (x y z : Int) (ns : List Int) : Prop where
  x0 : 0 ≤ x
  y0 : 0 ≤ y
  y1 : y < 2147483647
  z0 : 0 ≤ z
  nn : ∀ n ∈ ns, (0 : Int) ≤ n
def bagR (bag : Addr) : Res := exi fun (b : Int × Int × Int × Addr × List Int) => prp (BagOk b.1 b.2.1 b.2.2.1 b.2.2.2.2) (sp2 (pt bag (bagO b.1 b.2.1 b.2.2.1 b.2.2.2.1)) (pt b.2.2.2.1 (.lst (b.2.2.2.2.map V.int))))
theorem bag_open {bag : Addr} {Rs : List Res} {H : Hp} (S : M (bagR bag :: Rs) H) : ∃ x y z cl ns, BagOk x y z ns ∧ M (pt bag (bagO x y z cl) :: pt cl (.lst (ns.map V.int)) :: Rs) H := by
  obtain ⟨⟨x, y, z, cl, ns⟩, S⟩ := S.ex
  obtain ⟨ok, S⟩ := S.pr
  exact ⟨x, y, z, cl, ns, ok, S.sp⟩
theorem bag_close {bag cl : Addr} {x y z : Int} {ns : List Int} {Rs : List Res} {H : Hp} (ok : BagOk x y z ns) (S : M (pt bag (bagO x y z cl) :: pt cl (.lst (ns.map V.int)) :: Rs) H) : M (bagR bag :: Rs) H :=
  M.ex' (T := fun (b : Int × Int × Int × Addr × List Int) => prp (BagOk b.1 b.2.1 b.2.2.1 b.2.2.2.2) (sp2 (pt bag (bagO b.1 b.2.1 b.2.2.1 b.2.2.2.1)) (pt b.2.2.2.1 (.lst (b.2.2.2.2.map V.int))))) (x, y, z, cl, ns) (M.pr' ok S.sp')
def sp_l_take (K : PySem.W.Frag) : Sp := fun vs H Q _ => ∃ (Rs : List Res) (bag : Addr) (many : Int), vs = [.ref bag, .int many] ∧ M (bagR bag :: Rs) H ∧ 0 < many ∧ many < 2 ^ 62 ∧
  ∀ v H', 0 ≤ v → v < many → M (bagR bag :: Rs) H' → Q (.int v) H'
abbrev t_l_take_6 (K : PySem.W.Frag) : TS := (tSeq (tIfS (tTest (tOp uGe (tVar 4) (tC (.int 1000000000000000000)))) (tAsg (tVar 4) (gSub (tVar 0) (tC (.int 0)) uSet)) tNext)
  (tAsg (tOp uMod (tOp (uAdd K) (tOp (uAdd K) (tOp uMul (tOp (uIx K) (tVar 0) (tC (.int 1))) (tC (.int 48271))) (tOp uMod (tVar 4) (tC (.int 2147483647)))) (tOp uMul (tC (.int 7919)) (tOp (uIx K) (tVar 0) (tC (.int 2))))) (tC (.int 2147483647))) (gSub (tVar 0) (tC (.int 1)) uSet)))
abbrev t_l_take_5 (K : PySem.W.Frag) : TS := (tSeq (tAugS (tVar 0) (tC (.int 2)) (tC (.int 1)) (gIx K) iAdd uSet)
  (t_l_take_6 K))
abbrev t_l_take_3 (K : PySem.W.Frag) : TS := (tSeq (tIfS (tTest (tOp uLt (tOp (uIx K) (tVar 0) (tC (.int 2))) (tCB (uLen K) (tCons (tOp (uIx K) (tVar 0) (tC (.int 3))) tNil)))) (tAsg (tOp (uIx K) (tOp (uIx K) (tVar 0) (tC (.int 3))) (tOp (uIx K) (tVar 0) (tC (.int 2)))) (gName 4)) tNext)
  (t_l_take_5 K))
abbrev t_l_take_2 (K : PySem.W.Frag) : TS := (tSeq (tAsg (tC (.int 0)) (gName 4))
  (t_l_take_3 K))
abbrev t_l_take_11 (K : PySem.W.Frag) : TS := (tSeq (tAsg (tOp uDiv (tOp (uIx K) (tVar 0) (tC (.int 0))) (tVar 1)) (gSub (tVar 0) (tC (.int 0)) uSet))
  (tRet (tVar 5)))
abbrev t_l_take_10 (K : PySem.W.Frag) : TS := (tSeq (tAsg (tOp uMod (tOp (uIx K) (tVar 0) (tC (.int 0))) (tVar 1)) (gName 5))
  (t_l_take_11 K))
abbrev t_l_take_15 (K : PySem.W.Frag) : TS := (tSeq (tIfS (tTest (tOp uGt (tVar 1) (tC (.int 1000000)))) (tRet (tOp uMod (tOp (uAdd K) (tOp uMul (tVar 3) (tC (.int 1000000007))) (tVar 2)) (tVar 1))) tNext)
  (tRet (tOp uMod (tOp uDiv (tVar 3) (tC (.int 7))) (tVar 1))))
abbrev t_l_take_14 (K : PySem.W.Frag) : TS := (tSeq (tAsg (tOp uMod (tOp uMul (tOp uMod (tOp uMul (tVar 2) (tVar 2)) (tC (.int 998244353))) (tC (.int 30011))) (tC (.int 998244353))) (gName 3))
  (t_l_take_15 K))
abbrev t_l_take_13 (K : PySem.W.Frag) : TS := (tSeq (tAsg (tOp uMod (tOp uMul (tOp (uAdd K) (tOp (uIx K) (tVar 0) (tC (.int 1))) (tC (.int 1))) (tC (.int 39373))) (tC (.int 1000000007))) (gName 2))
  (t_l_take_14 K))
abbrev t_l_take_9 (K : PySem.W.Frag) : TS := (tSeq (tIfS (tTest (tOp uGt (tOp (uIx K) (tVar 0) (tC (.int 0))) (tC (.int 0)))) (t_l_take_10 K) tNext)
  (t_l_take_13 K))
abbrev t_l_take_1 (K : PySem.W.Frag) : TS := (tSeq (tIfS (tTest (tOp (uEq K) (tOp (uIx K) (tVar 0) (tC (.int 0))) (tC (.int 0)))) (t_l_take_2 K) tNext)
  (t_l_take_9 K))
abbrev t_l_take (K : PySem.W.Frag) : TS := (t_l_take_1 K)
theorem take_tail {K : PySem.W.Frag} {Q : VK} {Rs : List Res} {bag cl : Addr} {many x y z : Int} {ns : List Int} {c : Option V} {H : Hp} (m0 : 0 < many) (m1 : many < 2 ^ 62) (ok : BagOk x y z ns)
    (k : ∀ v H', 0 ≤ v → v < many → M (bagR bag :: Rs) H' → Q (.int v) H') (S : M (pt bag (bagO x y z cl) :: pt cl (.lst (ns.map V.int)) :: Rs) H) :
    t_l_take_9 K { nx := fun _ H' => Q .non H', rt := Q } [some (V.ref bag), some (V.int many), none, none, c, none] H := by
  have x0 := ok.x0
  have y0 := ok.y0
  have y1 := ok.y1
  walk_at "go"
  refine v_ifD (fun h => ?_) (fun h => ?_)
  · walk_at "go"
    refine v_set S 0 rfl rfl fun H' S' => ?_
    have S2 : M (pt bag (bagO (x / many) y z cl) :: pt cl (.lst (ns.map V.int)) :: Rs) H' := S'
    walk_at "go"
    exact k _ _ (Int.emod_nonneg _ (by omega)) (Int.emod_lt_of_pos _ m0) (bag_close ⟨Int.ediv_nonneg x0 (Int.le_of_lt m0), y0, y1, ok.z0, ok.nn⟩ S2)
  · walk_at "go"
    have f0 := Int.emod_nonneg ((y + 1) * 39373) (show (1000000007 : Int) ≠ 0 by decide)
    have f1 := Int.emod_lt_of_pos ((y + 1) * 39373) (show (0 : Int) < 1000000007 by decide)
    walk_at "go"
    have g0 := Int.emod_nonneg ((y + 1) * 39373 % 1000000007 * ((y + 1) * 39373 % 1000000007) % 998244353 * 30011) (show (998244353 : Int) ≠ 0 by decide)
    have g1 := Int.emod_lt_of_pos ((y + 1) * 39373 % 1000000007 * ((y + 1) * 39373 % 1000000007) % 998244353 * 30011) (show (0 : Int) < 998244353 by decide)
    refine v_ifD (fun h => ?_) (fun h => ?_)
    · walk_at "go"
      exact k _ _ (Int.emod_nonneg _ (by omega)) (Int.emod_lt_of_pos _ m0) (bag_close ok S)
    · walk_at "go"
      exact k _ _ (Int.emod_nonneg _ (by omega)) (Int.emod_lt_of_pos _ m0) (bag_close ok S)
theorem take_mid {K : PySem.W.Frag} {Q : VK} {Rs : List Res} {bag cl : Addr} {many y z c : Int} {ns : List Int} {H : Hp} (m0 : 0 < many) (m1 : many < 2 ^ 62) (ok : BagOk 0 y z ns) (c0 : 0 ≤ c)
    (k : ∀ v H', 0 ≤ v → v < many → M (bagR bag :: Rs) H' → Q (.int v) H') (S : M (pt bag (bagO 0 y z cl) :: pt cl (.lst (ns.map V.int)) :: Rs) H) :
    t_l_take_5 K { nx := t_l_take_9 K { nx := fun _ H' => Q .non H', rt := Q }, rt := Q } [some (V.ref bag), some (V.int many), none, none, some (.int c), none] H := by
  have y0 := ok.y0
  have y1 := ok.y1
  have z0 := ok.z0
  have fin : ∀ {x : Int} {H' : Hp}, 0 ≤ x → M (pt bag (bagO x y (z + 1) cl) :: pt cl (.lst (ns.map V.int)) :: Rs) H' →
      tAsg (tOp uMod (tOp (uAdd K) (tOp (uAdd K) (tOp uMul (tOp (uIx K) (tVar 0) (tC (.int 1))) (tC (.int 48271))) (tOp uMod (tVar 4) (tC (.int 2147483647)))) (tOp uMul (tC (.int 7919)) (tOp (uIx K) (tVar 0) (tC (.int 2))))) (tC (.int 2147483647))) (gSub (tVar 0) (tC (.int 1)) uSet)
        { nx := t_l_take_9 K { nx := fun _ H' => Q .non H', rt := Q }, rt := Q } [some (V.ref bag), some (V.int many), none, none, some (.int c), none] H' := by
    intro x H' x0 S
    walk_at "go"
    refine v_set S 0 rfl rfl fun H2 S' => ?_
    have S2 : M (pt bag (bagO x ((y * 48271 + c % 2147483647 + 7919 * (z + 1)) % 2147483647) (z + 1) cl) :: pt cl (.lst (ns.map V.int)) :: Rs) H2 := S'
    walk_at "nx"
    exact take_tail m0 m1 ⟨x0, Int.emod_nonneg _ (by decide), Int.emod_lt_of_pos _ (by decide), by omega, ok.nn⟩ k S2
  walk_at "go"
  refine v_set S 0 rfl rfl fun H' S' => ?_
  have S2 : M (pt bag (bagO 0 y (z + 1) cl) :: pt cl (.lst (ns.map V.int)) :: Rs) H' := S'
  walk_at "go"
  refine v_ifD (fun h => ?_) (fun h => ?_)
  · walk_at "go"
    refine v_set S2 0 rfl rfl fun H2 S' => ?_
    have S3 : M (pt bag (bagO c y (z + 1) cl) :: pt cl (.lst (ns.map V.int)) :: Rs) H2 := S'
    exact fin c0 S3
  · walk_at "st"
    exact fin (Int.le_refl 0) S2
theorem len_l_take {K : PySem.W.Frag} (vs : List V) (H : Hp) (Q : VK) (E : XK) (h : sp_l_take K vs H Q E) : vs.length = 2 := by
  obtain ⟨Rs, bag, many, rfl, _⟩ := h
  rfl
theorem pure_l_take {K : PySem.W.Frag} (vs : List V) (H : Hp) (Q : VK) (E : XK) (h : sp_l_take K vs H Q E) : t_l_take K { nx := fun _ H' => Q .non H', rt := Q } (start ["_law_bag_here", "_law_many", "_law_first", "_law_second", "_law_cell", "_law_value"] vs) H := by
  obtain ⟨Rs, bag, many, rfl, S, m0, m1, k⟩ := h
  obtain ⟨x, y, z, cl, ns, ok, S⟩ := bag_open S
  show t_l_take K _ [some (V.ref bag), some (V.int many), none, none, none, none] H
  walk_at "go"
  refine v_ifD (fun h => ?_) (fun h => ?_)
  · subst h
    walk_at "go"
    refine v_ifD (fun h => ?_) (fun h => ?_)
    · rw [List.length_map] at h
      walk_at "go"
      refine v_ixL (SqL.of (S.got 1 rfl)) (atI_ints ok.z0 h) ?_
      walk_at "nx"
      refine take_mid m0 m1 ok ?_ k S
      rw [List.getD_eq_getElem?_getD]
      cases e : ns[z.toNat]? with
      | none => exact Int.le_refl 0
      | some n => exact ok.nn n (List.mem_of_getElem? e)
    · walk_at "st"
      exact take_mid m0 m1 ok (Int.le_refl 0) k S
  · walk_at "st"
    exact take_tail m0 m1 ok k S
def sp_l_bag (K : PySem.W.Frag) : Sp := fun vs H Q _ => ∃ (Rs : List Res) (a : Addr) (ns : List Int), vs = [.ref a] ∧ M Rs H ∧ Ent Rs (fun H => SqL K H a (ns.map V.int)) ∧ ns.length ≤ 63 ∧ ∀ bag H', M (bagR bag :: Rs) H' → Q (.ref bag) H'
theorem len_l_bag {K : PySem.W.Frag} (vs : List V) (H : Hp) (Q : VK) (E : XK) (h : sp_l_bag K vs H Q E) : vs.length = 1 := by
  obtain ⟨Rs, a, ns, rfl, _⟩ := h
  rfl
abbrev t_l_bag (K : PySem.W.Frag) : TS := (tRet (tLst (tCons (tC (.int 0)) (tCons (tC (.int 1234567891)) (tCons (tC (.int 0)) (tCons (tLc (iList K (tSl (uSl K) (tVar 0) tNoPart (tPart (tC (.int 63))))) (gName 1) tYes (tCB rAbs (tCons (tVar 1) tNil)) [1]) tNil))))))
theorem pure_l_bag {K : PySem.W.Frag} (vs : List V) (H : Hp) (Q : VK) (E : XK) (h : sp_l_bag K vs H Q E) : t_l_bag K { nx := fun _ H' => Q .non H', rt := Q } (start ["_law_script", "_law_cell"] vs) H := by
  obtain ⟨Rs, a, ns, rfl, S, hS, hl, k⟩ := h
  show t_l_bag K _ [some (V.ref a), none] H
  walk_at "go"
  refine v_slL S (hS H S) fun q H1 S1 => ?_
  rw [show cutV (ns.map V.int) none (some 63) = (ns.map V.int).take 63 from cut_to _ 63, ← List.map_take] at S1
  refine v_itL (SqL.of (S1.got 0 rfl)) ?_
  refine lc_W walk_list S1 (fun i acc => ∃ ms : List Int, acc = ms.map V.int ∧ ms.length ≤ i ∧ ∀ n ∈ ms, 0 ≤ n) ⟨[], rfl, Nat.le_refl _, (fun _ h => nomatch h)⟩ (fun H S => SqL.of (S.got 0 rfl)) ?_ ?_
  · intro i x acc E H H' hi hp S y
    obtain ⟨rfl, hx⟩ := y
    obtain ⟨n, _, rfl⟩ := ints_get hx
    obtain ⟨ms, rfl, hm, hn⟩ := hp
    walk_at "go"
    have hz : i < 63 := by
      rw [List.length_map, List.length_take] at hi
      omega
    refine lc_next S 0 rfl (by rw [List.length_map]; omega) fun H' S' => ?_
    refine ⟨_, ⟨ms ++ [if n < 0 then -n else n], by simp, by simp; omega, fun m h => ?_⟩, S'⟩
    rcases List.mem_append.mp h with h | h
    · exact hn m h
    · cases List.mem_singleton.mp h
      split <;> omega
  · rintro E acc H ⟨ms, rfl, _, hn⟩ S
    walk_at "go"
    refine v_lst S (by simp) fun p H' S' => ?_
    walk_at "go"
    have S2 : M (pt p (bagO 0 1234567891 0 E) :: pt E (.lst (ms.map V.int)) :: Rs) H' := (S'.at 2 rfl).tl
    exact k p H' (bag_close ⟨by decide, by decide, by decide, by decide, hn⟩ S2)
/-- a draw -/
theorem u_take {K : PySem.W.Frag} {Rs : List Res} {H : Hp} {bag : Addr} {many : Int} {Q : VK} {E : XK} (S : M (bagR bag :: Rs) H) (h : 0 < many ∧ many < 2 ^ 62) (k : ∀ v H', 0 ≤ v → v < many → M (bagR bag :: Rs) H' → Q (.int v) H') :
    sp_l_take K ([.ref bag, .int many] ++ []) H Q E := ⟨Rs, bag, many, rfl, S, h.1, h.2, k⟩
def sp_l_alike (K : PySem.W.Frag) : Sp := fun vs H Q _ => ∃ (x y : V) (d : PyData), vs = [x, y] ∧ Dn K H x d ∧ Dn K H y d ∧ AlkOk d ∧ Q (.bl true) H
theorem len_l_alike {K : PySem.W.Frag} (vs : List V) (H : Hp) (Q : VK) (E : XK) (h : sp_l_alike K vs H Q E) : vs.length = 2 := by
  obtain ⟨x, y, d, rfl, _⟩ := h
  rfl
abbrev t_l_alike (K : PySem.W.Frag) : TS := (tRet (tAndV (tOp (uEqQ K) (tVar 0) (tVar 1)) (tOp (uEqQ K) (tCB (rReprQ K) (tCons (tVar 0) tNil)) (tCB (rReprQ K) (tCons (tVar 1) tNil)))))
theorem pure_l_alike {K : PySem.W.Frag} (vs : List V) (H : Hp) (Q : VK) (E : XK) (h : sp_l_alike K vs H Q E) : t_l_alike K { nx := fun _ H' => Q .non H', rt := Q } (L2.start ["_law_found", "_law_due"] vs) H := by
  obtain ⟨x, y, d, rfl, h1, h2, ok, k⟩ := h
  show t_l_alike K _ [some x, some y] H
  refine g_ret (g_andV (g_op (g_var rfl (g_var rfl (.inr ⟨d, h1, h2, ok.ok, ok.dp, g_bl (v_ifT ?_)⟩)))))
  refine g_op (g_cb (g_cons (g_var rfl (g_nil ⟨x, d, rfl, h1, ok.sh, ok.dp, ok.ln, ?_⟩))))
  refine g_cb (g_cons (g_var rfl (g_nil ⟨y, d, rfl, h2, ok.sh, ok.dp, ok.ln, ?_⟩)))
  refine .inl (v_eqS ?_)
  rw [decide_eq_true rfl]
  exact k
structure TxC (K : PySem.W.Frag) : Prop where
  ct_KINDS : ∀ H, SqT K H (He.ga K "KINDS") [.str "full", .str "step", .str "wide"]
  cl_Links : Cls K (He.ga K "Links")
  na_Links_sort_by : NoAttr K (He.ga K "Links") "sort_by"
  na_Links_base_by : NoAttr K (He.ga K "Links") "base_by"
  na_Links_whole_by : NoAttr K (He.ga K "Links") "whole_by"
  xc_Wrong : ExcC K (He.ga K "Wrong")
  xn_Wrong_at : chN K "Wrong" "at" = true
  xm_Wrong_StoreError : PySem.W.exmOne K (.ref (He.ga K "Wrong")) (.ref (He.ga K "StoreError")) = some true
  xm_Wrong_Missing : PySem.W.exmOne K (.ref (He.ga K "Wrong")) (.ref (He.ga K "Missing")) = some false
  xk_Wrong_There : PySem.W.kitOne K (.ref (He.ga K "Wrong")) (.ref (He.ga K "There")) = some false
  xk_Wrong_TooMany : PySem.W.kitOne K (.ref (He.ga K "Wrong")) (.ref (He.ga K "TooMany")) = some false
  xk_Wrong_NoBase : PySem.W.kitOne K (.ref (He.ga K "Wrong")) (.ref (He.ga K "NoBase")) = some false
  xk_Wrong_NoMoment : PySem.W.kitOne K (.ref (He.ga K "Wrong")) (.ref (He.ga K "NoMoment")) = some false
  xk_Wrong_Wrong : PySem.W.kitOne K (.ref (He.ga K "Wrong")) (.ref (He.ga K "Wrong")) = some true
  xk_Wrong_LookupError : PySem.W.kitOne K (.ref (He.ga K "Wrong")) (.type "LookupError") = some false
  xc_NoMoment : ExcC K (He.ga K "NoMoment")
  xn_NoMoment_time : chN K "NoMoment" "time" = true
  xm_NoMoment_StoreError : PySem.W.exmOne K (.ref (He.ga K "NoMoment")) (.ref (He.ga K "StoreError")) = some false
  xm_NoMoment_Missing : PySem.W.exmOne K (.ref (He.ga K "NoMoment")) (.ref (He.ga K "Missing")) = some true
  xk_NoMoment_There : PySem.W.kitOne K (.ref (He.ga K "NoMoment")) (.ref (He.ga K "There")) = some false
  xk_NoMoment_TooMany : PySem.W.kitOne K (.ref (He.ga K "NoMoment")) (.ref (He.ga K "TooMany")) = some false
  xk_NoMoment_NoBase : PySem.W.kitOne K (.ref (He.ga K "NoMoment")) (.ref (He.ga K "NoBase")) = some false
  xk_NoMoment_NoMoment : PySem.W.kitOne K (.ref (He.ga K "NoMoment")) (.ref (He.ga K "NoMoment")) = some true
  xk_NoMoment_Wrong : PySem.W.kitOne K (.ref (He.ga K "NoMoment")) (.ref (He.ga K "Wrong")) = some false
  xk_NoMoment_LookupError : PySem.W.kitOne K (.ref (He.ga K "NoMoment")) (.type "LookupError") = some true
  xc_There : ExcC K (He.ga K "There")
  xn_There_thing : chN K "There" "thing" = true
  xm_There_StoreError : PySem.W.exmOne K (.ref (He.ga K "There")) (.ref (He.ga K "StoreError")) = some true
  xm_There_Missing : PySem.W.exmOne K (.ref (He.ga K "There")) (.ref (He.ga K "Missing")) = some false
  xk_There_There : PySem.W.kitOne K (.ref (He.ga K "There")) (.ref (He.ga K "There")) = some true
  xk_There_TooMany : PySem.W.kitOne K (.ref (He.ga K "There")) (.ref (He.ga K "TooMany")) = some false
  xk_There_NoBase : PySem.W.kitOne K (.ref (He.ga K "There")) (.ref (He.ga K "NoBase")) = some false
  xk_There_NoMoment : PySem.W.kitOne K (.ref (He.ga K "There")) (.ref (He.ga K "NoMoment")) = some false
  xk_There_Wrong : PySem.W.kitOne K (.ref (He.ga K "There")) (.ref (He.ga K "Wrong")) = some false
  xk_There_LookupError : PySem.W.kitOne K (.ref (He.ga K "There")) (.type "LookupError") = some false
  xc_TooMany : ExcC K (He.ga K "TooMany")
  xn_TooMany_most : chN K "TooMany" "most" = true
  xm_TooMany_StoreError : PySem.W.exmOne K (.ref (He.ga K "TooMany")) (.ref (He.ga K "StoreError")) = some true
  xm_TooMany_Missing : PySem.W.exmOne K (.ref (He.ga K "TooMany")) (.ref (He.ga K "Missing")) = some false
  xk_TooMany_There : PySem.W.kitOne K (.ref (He.ga K "TooMany")) (.ref (He.ga K "There")) = some false
  xk_TooMany_TooMany : PySem.W.kitOne K (.ref (He.ga K "TooMany")) (.ref (He.ga K "TooMany")) = some true
  xk_TooMany_NoBase : PySem.W.kitOne K (.ref (He.ga K "TooMany")) (.ref (He.ga K "NoBase")) = some false
  xk_TooMany_NoMoment : PySem.W.kitOne K (.ref (He.ga K "TooMany")) (.ref (He.ga K "NoMoment")) = some false
  xk_TooMany_Wrong : PySem.W.kitOne K (.ref (He.ga K "TooMany")) (.ref (He.ga K "Wrong")) = some false
  xk_TooMany_LookupError : PySem.W.kitOne K (.ref (He.ga K "TooMany")) (.type "LookupError") = some false
  xc_NoBase : ExcC K (He.ga K "NoBase")
  xn_NoBase_time : chN K "NoBase" "time" = true
  xm_NoBase_StoreError : PySem.W.exmOne K (.ref (He.ga K "NoBase")) (.ref (He.ga K "StoreError")) = some true
  xm_NoBase_Missing : PySem.W.exmOne K (.ref (He.ga K "NoBase")) (.ref (He.ga K "Missing")) = some false
  xk_NoBase_There : PySem.W.kitOne K (.ref (He.ga K "NoBase")) (.ref (He.ga K "There")) = some false
  xk_NoBase_TooMany : PySem.W.kitOne K (.ref (He.ga K "NoBase")) (.ref (He.ga K "TooMany")) = some false
  xk_NoBase_NoBase : PySem.W.kitOne K (.ref (He.ga K "NoBase")) (.ref (He.ga K "NoBase")) = some true
  xk_NoBase_NoMoment : PySem.W.kitOne K (.ref (He.ga K "NoBase")) (.ref (He.ga K "NoMoment")) = some false
  xk_NoBase_Wrong : PySem.W.kitOne K (.ref (He.ga K "NoBase")) (.ref (He.ga K "Wrong")) = some false
  xk_NoBase_LookupError : PySem.W.kitOne K (.ref (He.ga K "NoBase")) (.type "LookupError") = some false
inductive Ex where
  | Wrong (w : PyData)
  | NoMoment (w : PyData)
  | There (w : PyData)
  | TooMany (w : PyData)
  | NoBase (w : PyData)
def Ex.cls : Ex → Str
  | .Wrong _ => "Wrong"
  | .NoMoment _ => "NoMoment"
  | .There _ => "There"
  | .TooMany _ => "TooMany"
  | .NoBase _ => "NoBase"
def Ex.fld : Ex → Str
  | .Wrong _ => "at"
  | .NoMoment _ => "time"
  | .There _ => "thing"
  | .TooMany _ => "most"
  | .NoBase _ => "time"
def Ex.val : Ex → PyData
  | .Wrong w => w
  | .NoMoment w => w
  | .There w => w
  | .TooMany w => w
  | .NoBase w => w
def p_l_name  (P : Str → Prop) : Prop := takeD 4 fun n8 => if (decide (n8 = 0)) = true then (takeD 12 fun n12 => ∃ x15, atI ([("full" : Str), ("step" : Str), ("wide" : Str), ("none" : Str), ("gone" : Str), ("put" : Str), ("at" : Str), ("run" : Str), ("a" : Str), ("aa" : Str), ("ab" : Str), ("b" : Str)]) n12 = some x15 ∧ P x15) else (∃ x23, atI ([2, 8, 1]) (n8 - 1) = some x23 ∧ takeD x23 fun n26 => ((-(2 ^ 62) : Int) ≤ (1 + n26) ∧ (1 + n26) < (2 ^ 62 : Int)) ∧ (rng (1 + n26)).length ≤ 100000 ∧ lcD (fun (x33 : Int) (k40 : Option Str → Prop) => takeD 26 fun n42 => ∃ x45, atS ("abcdefghijklmnopqrstuvwxyz" : Str) n42 = some x45 ∧ k40 (some x45)) (rng (1 + n26)) [] fun acc30 => (((acc30).map (·.length)).sum + (acc30).length * (("" : Str)).length ≤ 16777216) ∧ P (Txt.join ("" : Str) acc30))
def sp_l_name (K : PySem.W.Frag) : Sp := fun vs H Q _ => ∃ (Rs : List Res) (a_bag_here : Addr) (P : Str → Prop), vs = [(V.ref a_bag_here)] ∧ M (bagR a_bag_here :: Rs) H ∧ p_l_name P ∧ ∀ (r : Str) H', P r → M (bagR a_bag_here :: Rs) H' → Q (V.str r) H'
theorem len_l_name {K : PySem.W.Frag} (vs : List V) (H : Hp) (Q : VK) (E : XK) (h : sp_l_name K vs H Q E) : vs.length = 1 := by
  obtain ⟨Rs, a_bag_here, P, rfl, _⟩ := h
  rfl
abbrev t_l_name_5 (K : PySem.W.Frag) : TS := (tSeq (tAsg (tC (.str "abcdefghijklmnopqrstuvwxyz")) (gName 3))
  (tRet (tM1 (rJoin K) (tC (.str "")) (tLc (iRng1 (tCons (tOp (uAdd K) (tC (.int 1)) (tCall (sp_l_take K) [] E0 (tCons (tVar 0) (tCons (tOp (uIx K) (tLst (tCons (tC (.int 2)) (tCons (tC (.int 8)) (tCons (tC (.int 1)) tNil)))) (tOp uSub (tVar 2) (tC (.int 1)))) tNil)))) tNil)) (gName 4) tYes (tOp (uIx K) (tVar 3) (tCall (sp_l_take K) [] E0 (tCons (tVar 0) (tCons (tC (.int 26)) tNil)))) [4]))))
abbrev t_l_name_3 (K : PySem.W.Frag) : TS := (tSeq (tIfS (tTest (tOp (uEq K) (tVar 2) (tC (.int 0)))) (tRet (tOp (uIx K) (tVar 1) (tCall (sp_l_take K) [] E0 (tCons (tVar 0) (tCons (tC (.int 12)) tNil))))) tNext)
  (t_l_name_5 K))
abbrev t_l_name_2 (K : PySem.W.Frag) : TS := (tSeq (tAsg (tCall (sp_l_take K) [] E0 (tCons (tVar 0) (tCons (tC (.int 4)) tNil))) (gName 2))
  (t_l_name_3 K))
abbrev t_l_name_1 (K : PySem.W.Frag) : TS := (tSeq (tAsg (tLst (tCons (tC (.str "full")) (tCons (tC (.str "step")) (tCons (tC (.str "wide")) (tCons (tC (.str "none")) (tCons (tC (.str "gone")) (tCons (tC (.str "put")) (tCons (tC (.str "at")) (tCons (tC (.str "run")) (tCons (tC (.str "a")) (tCons (tC (.str "aa")) (tCons (tC (.str "ab")) (tCons (tC (.str "b")) tNil))))))))))))) (gName 1))
  (t_l_name_2 K))
abbrev t_l_name (K : PySem.W.Frag) : TS := (t_l_name_1 K)
theorem pure_l_name {K : PySem.W.Frag} (vs : List V) (H : Hp) (Q : VK) (E : XK) (h : sp_l_name K vs H Q E) : t_l_name K { nx := fun _ H' => Q .non H', rt := Q } (L2.start ["_law_bag_here", "_law_words", "_law_way", "_law_letters", "_law_k"] vs) H := by
  obtain ⟨Rs, a_bag_here, P, rfl, S0, hf, hk⟩ := h
  show t_l_name K _ [some (V.ref a_bag_here), none, none, none, none] H
  refine g_seq (g_asg (g_lst (g_cons (g_c (g_cons (g_c (g_cons (g_c (g_cons (g_c (g_cons (g_c (g_cons (g_c (g_cons (g_c (g_cons (g_c (g_cons (g_c (g_cons (g_c (g_cons (g_c (g_cons (g_c (g_nil (v_lsto (ds := ([("full" : Str), ("step" : Str), ("wide" : Str), ("none" : Str), ("gone" : Str), ("put" : Str), ("at" : Str), ("run" : Str), ("a" : Str), ("aa" : Str), ("ab" : Str), ("b" : Str)]).map eS) S0 (EnF.consA (EnF.all fun _ => .str _) (EnF.consA (EnF.all fun _ => .str _) (EnF.consA (EnF.all fun _ => .str _) (EnF.consA (EnF.all fun _ => .str _) (EnF.consA (EnF.all fun _ => .str _) (EnF.consA (EnF.all fun _ => .str _) (EnF.consA (EnF.all fun _ => .str _) (EnF.consA (EnF.all fun _ => .str _) (EnF.consA (EnF.all fun _ => .str _) (EnF.consA (EnF.all fun _ => .str _) (EnF.consA (EnF.all fun _ => .str _) (EnF.consA (EnF.all fun _ => .str _) EnF.nilA)))))))))))) (len_ok rfl) fun p1 H3 (S2 : M (acR K p1 (([("full" : Str), ("step" : Str), ("wide" : Str), ("none" : Str), ("gone" : Str), ("put" : Str), ("at" : Str), ("run" : Str), ("a" : Str), ("aa" : Str), ("ab" : Str), ("b" : Str)]).map eS) :: bagR a_bag_here :: Rs) H3) => ?_))))))))))))))))))))))))))))
  have S5 : M (da K (V.ref p1) ((eL eS) ([("full" : Str), ("step" : Str), ("wide" : Str), ("none" : Str), ("gone" : Str), ("put" : Str), ("at" : Str), ("run" : Str), ("a" : Str), ("aa" : Str), ("ab" : Str), ("b" : Str)])) :: bagR a_bag_here :: Rs) H3 := acR_fixL S2
  refine g_nx ?_
  refine g_seq (g_asg (g_call (g_cons (g_var rfl (g_cons (g_c (g_nil ?_)))))))
  obtain ⟨h7, hf⟩ := hf
  refine u_take (S5.at 1 rfl) h7 fun n8 H10 n8l n8u (S9 : M (bagR a_bag_here :: da K (V.ref p1) ((eL eS) ([("full" : Str), ("step" : Str), ("wide" : Str), ("none" : Str), ("gone" : Str), ("put" : Str), ("at" : Str), ("run" : Str), ("a" : Str), ("aa" : Str), ("ab" : Str), ("b" : Str)])) :: Rs) H10) => ?_
  replace hf := hf n8 n8l n8u
  refine g_nx ?_
  refine g_seq (g_if (g_test (g_op (g_var rfl (g_c (v_eqI (g_bl (v_iff hf (fun _ hf => ?_) (fun _ hf => ?_)))))))))
  ·
    refine g_ret (g_op (g_var rfl (g_call (g_cons (g_var rfl (g_cons (g_c (g_nil ?_))))))))
    obtain ⟨h11, hf⟩ := hf
    refine u_take (S9.at 0 rfl) h11 fun n12 H14 n12l n12u (S13 : M (bagR a_bag_here :: da K (V.ref p1) ((eL eS) ([("full" : Str), ("step" : Str), ("wide" : Str), ("none" : Str), ("gone" : Str), ("put" : Str), ("at" : Str), ("run" : Str), ("a" : Str), ("aa" : Str), ("ab" : Str), ("b" : Str)])) :: Rs) H14) => ?_
    replace hf := hf n12 n12l n12u
    obtain ⟨x15, h16, hf⟩ := hf
    refine v_ixN flS (M.gotA S13 1 rfl) h16 ?_
    exact hk _ _ hf (M.sub (.cons 0 rfl (.tl (.refl _))) S13)
  ·
    refine g_next (g_nx (g_seq (g_asg (g_c (g_nx ?_)))))
    refine g_ret (g_m1 (g_c (v_isS (g_lc (g_iRng1 (g_cons (g_op (g_c (g_call (g_cons (g_var rfl (g_cons (g_op (g_lst (g_cons (g_c (g_cons (g_c (g_cons (g_c (g_nil (v_lsto (ds := ([2, 8, 1]).map eI) S9 (EnF.consA (EnF.all fun _ => .int _) (EnF.consA (EnF.all fun _ => .int _) (EnF.consA (EnF.all fun _ => .int _) EnF.nilA))) (len_ok rfl) fun p17 H19 (S18 : M (acR K p17 (([2, 8, 1]).map eI) :: bagR a_bag_here :: da K (V.ref p1) ((eL eS) ([("full" : Str), ("step" : Str), ("wide" : Str), ("none" : Str), ("gone" : Str), ("put" : Str), ("at" : Str), ("run" : Str), ("a" : Str), ("aa" : Str), ("ab" : Str), ("b" : Str)])) :: Rs) H19) => ?_))))))))))))))))))))))
    refine g_op (g_var rfl (g_c (v_sub ?_)))
    have S21 : M (da K (V.ref p17) ((eL eI) ([2, 8, 1])) :: bagR a_bag_here :: da K (V.ref p1) ((eL eS) ([("full" : Str), ("step" : Str), ("wide" : Str), ("none" : Str), ("gone" : Str), ("put" : Str), ("at" : Str), ("run" : Str), ("a" : Str), ("aa" : Str), ("ab" : Str), ("b" : Str)])) :: Rs) H19 := acR_fixL S18
    obtain ⟨x23, h24, hf⟩ := hf
    refine v_ixN flI (M.gotA S21 0 rfl) h24 (g_nil ?_)
    obtain ⟨h25, hf⟩ := hf
    refine u_take (S21.at 1 rfl) h25 fun n26 H28 n26l n26u (S27 : M (bagR a_bag_here :: da K (V.ref p17) ((eL eI) ([2, 8, 1])) :: da K (V.ref p1) ((eL eS) ([("full" : Str), ("step" : Str), ("wide" : Str), ("none" : Str), ("gone" : Str), ("put" : Str), ("at" : Str), ("run" : Str), ("a" : Str), ("aa" : Str), ("ab" : Str), ("b" : Str)])) :: Rs) H28) => ?_
    replace hf := hf n26 n26l n26u
    obtain ⟨h29, hf⟩ := hf
    refine v_add (g_nil (v_itR h29 ?_))
    refine lc_rng (K := K) (e' := eS) hf S27 (fun x33 acc30 E31 H39 kk32 N34 hl35 S38 hf hp36 hn37 => ?_) (fun E31 acc30 H50 hf S49 => ?_)
    ·
      refine g_name (g_wipe rfl (g_yes (v_ifT (g_op (g_var rfl (g_call (g_cons (g_var rfl (g_cons (g_c (g_nil ?_)))))))))))
      obtain ⟨h41, hf⟩ := hf
      refine u_take (S38.at 1 rfl) h41 fun n42 H44 n42l n42u (S43 : M (bagR a_bag_here :: acR K E31 (acc30.map eS) :: da K (V.ref p17) ((eL eI) ([2, 8, 1])) :: da K (V.ref p1) ((eL eS) ([("full" : Str), ("step" : Str), ("wide" : Str), ("none" : Str), ("gone" : Str), ("put" : Str), ("at" : Str), ("run" : Str), ("a" : Str), ("aa" : Str), ("ab" : Str), ("b" : Str)])) :: Rs) H44) => ?_
      replace hf := hf n42 n42l n42u
      obtain ⟨x45, h46, hf⟩ := hf
      refine v_ixs h46 (acR_put S43 1 rfl (EnF.all fun _ => .str _) hl35 fun H48 (S47 : M (acR K E31 (acc30.map eS ++ [eS x45]) :: bagR a_bag_here :: da K (V.ref p17) ((eL eI) ([2, 8, 1])) :: da K (V.ref p1) ((eL eS) ([("full" : Str), ("step" : Str), ("wide" : Str), ("none" : Str), ("gone" : Str), ("put" : Str), ("at" : Str), ("run" : Str), ("a" : Str), ("aa" : Str), ("ab" : Str), ("b" : Str)])) :: Rs) H48) => ?_)
      exact hp36 _ _ hf (M.sub (.cons 0 rfl (.cons 0 rfl (.cons 0 rfl (.cons 0 rfl (.refl _))))) S47)
    have S52 : M (da K (V.ref E31) ((eL eS) acc30) :: bagR a_bag_here :: da K (V.ref p17) ((eL eI) ([2, 8, 1])) :: da K (V.ref p1) ((eL eS) ([("full" : Str), ("step" : Str), ("wide" : Str), ("none" : Str), ("gone" : Str), ("put" : Str), ("at" : Str), ("run" : Str), ("a" : Str), ("aa" : Str), ("ab" : Str), ("b" : Str)])) :: Rs) H50 := acR_fixL S49
    obtain ⟨h54, hf⟩ := hf
    refine v_join (M.gotA S52 0 rfl) h54 ?_
    exact hk _ _ hf (M.sub (.cons 1 rfl (.tl (.tl (.tl (.refl _))))) S52)
def p_l_names (a_many : Int) (P : (List Str) → Prop) : Prop := ((-(2 ^ 62) : Int) ≤ a_many ∧ a_many < (2 ^ 62 : Int)) ∧ (rng a_many).length ≤ 100000 ∧ lcD (fun (x5 : Int) (k12 : Option Str → Prop) => p_l_name fun x13 => k12 (some x13)) (rng a_many) [] fun acc2 => (strL ("abcdefghijklmnopqrstuvwxyz" : Str)).length ≤ 100000 ∧ lcD (fun (x27 : Str) (k34 : Option Str → Prop) => ((x27).length + (("x" : Str)).length ≤ 100000) ∧ k34 (some (x27 ++ ("x" : Str)))) (strL ("abcdefghijklmnopqrstuvwxyz" : Str)) [] fun acc24 => (acc2).length + (acc24).length ≤ 100000 ∧ (strL ("abcdefghijklmnopqrstuvwxyz" : Str)).length ≤ 100000 ∧ lcD (fun (x53 : Str) (k60 : Option Str → Prop) => ((("y" : Str)).length + (x53).length ≤ 100000) ∧ k60 (some (("y" : Str) ++ x53))) (strL ("abcdefghijklmnopqrstuvwxyz" : Str)) [] fun acc50 => ((cat acc2 acc24)).length + (acc50).length ≤ 100000 ∧ forD (fun (x84 : Str) (s81 : (List Str)) (k82 : ((List Str)) → Prop) => if ((!decide (x84 ∈ s81)) && (decide (((s81).length : Int) < a_many))) = true then ((s81).length < 100000 ∧ k82 (sno s81 x84)) else (k82 s81)) (cat (cat acc2 acc24) acc50) ([] : (List Str)) fun s81 => P s81
def sp_l_names (K : PySem.W.Frag) : Sp := fun vs H Q _ => ∃ (Rs : List Res) (a_bag_here : Addr) (a_many : Int) (P : (List Str) → Prop), vs = [(V.ref a_bag_here), (V.int a_many)] ∧ M (bagR a_bag_here :: Rs) H ∧ p_l_names a_many P ∧ ∀ (r : (List Str)) (v : V) H', P r → M (da K v ((eL eS) r) :: bagR a_bag_here :: Rs) H' → Q v H'
theorem len_l_names {K : PySem.W.Frag} (vs : List V) (H : Hp) (Q : VK) (E : XK) (h : sp_l_names K vs H Q E) : vs.length = 2 := by
  obtain ⟨Rs, a_bag_here, a_many, P, rfl, _⟩ := h
  rfl
abbrev t_l_names_6 (K : PySem.W.Frag) : TS := (tIfS (tAnd (tTest (tOp (uNotIn K) (tVar 5) (tVar 4))) (tTest (tOp uLt (tCB (uLen K) (tCons (tVar 4) tNil)) (tVar 1)))) (tDrop (tBM K "list" rAppend (tVar 4) (tCons (tVar 5) tNil))) tNext)
abbrev t_l_names_5 (K : PySem.W.Frag) : TS := (tSeq (tFor (iList K (tVar 3)) (gName 5) (t_l_names_6 K))
  (tRet (tVar 4)))
abbrev t_l_names_4 (K : PySem.W.Frag) : TS := (tSeq (tAsg (tLst tNil) (gName 4))
  (t_l_names_5 K))
abbrev t_l_names_3 (K : PySem.W.Frag) : TS := (tSeq (tAsg (tOp (uAdd K) (tOp (uAdd K) (tVar 3) (tLc (iStr (tVar 2)) (gName 7) tYes (tOp (uAdd K) (tVar 7) (tC (.str "x"))) [7])) (tLc (iStr (tVar 2)) (gName 7) tYes (tOp (uAdd K) (tC (.str "y")) (tVar 7)) [7])) (gName 3))
  (t_l_names_4 K))
abbrev t_l_names_2 (K : PySem.W.Frag) : TS := (tSeq (tAsg (tLc (iRng1 (tCons (tVar 1) tNil)) (gName 6) tYes (tCall (sp_l_name K) [] E0 (tCons (tVar 0) tNil)) [6]) (gName 3))
  (t_l_names_3 K))
abbrev t_l_names_1 (K : PySem.W.Frag) : TS := (tSeq (tAsg (tC (.str "abcdefghijklmnopqrstuvwxyz")) (gName 2))
  (t_l_names_2 K))
abbrev t_l_names (K : PySem.W.Frag) : TS := (t_l_names_1 K)
theorem pure_l_names {K : PySem.W.Frag} (vs : List V) (H : Hp) (Q : VK) (E : XK) (h : sp_l_names K vs H Q E) : t_l_names K { nx := fun _ H' => Q .non H', rt := Q } (L2.start ["_law_bag_here", "_law_many", "_law_letters", "_law_some", "_law_found", "_law_name_here", "_law_k", "_law_letter"] vs) H := by
  obtain ⟨Rs, a_bag_here, a_many, P, rfl, S0, hf, hk⟩ := h
  show t_l_names K _ [some (V.ref a_bag_here), some (V.int a_many), none, none, none, none, none, none] H
  refine g_seq (g_asg (g_c (g_nx ?_)))
  obtain ⟨h1, hf⟩ := hf
  refine g_seq (g_asg (g_lc (g_iRng1 (g_cons (g_var rfl (g_nil (v_itR h1 ?_)))))))
  refine lc_rng (K := K) (e' := eS) hf S0 (fun x5 acc2 E3 H11 kk4 N6 hl7 S10 hf hp8 hn9 => ?_) (fun E3 acc2 H20 hf S19 => ?_)
  ·
    refine g_name (g_wipe rfl (g_yes (v_ifT (g_call (g_cons (g_var rfl (g_nil (⟨_, _, _, rfl, (M.at S10 1 rfl), hf, fun x13 H15 hf (S14 : M (bagR a_bag_here :: acR K E3 (acc2.map eS) :: Rs) H15) => ?_⟩))))))))
    refine acR_put S14 1 rfl (EnF.all fun _ => .str _) hl7 fun H18 (S17 : M (acR K E3 (acc2.map eS ++ [eS x13]) :: bagR a_bag_here :: Rs) H18) => ?_
    exact hp8 _ _ hf (M.sub (.cons 0 rfl (.cons 0 rfl (.refl _))) S17)
  have S22 : M (da K (V.ref E3) ((eL eS) acc2) :: bagR a_bag_here :: Rs) H20 := acR_fixL S19
  refine g_nx ?_
  refine g_seq (g_asg (g_op (g_op (g_var rfl (g_lc (g_iStr (g_var rfl (⟨_, rfl, ?_⟩))))))))
  refine lc_str (K := K) (e' := eS) hf S22 (fun x27 acc24 E25 H33 kk26 N28 hl29 S32 hf hp30 hn31 => ?_) (fun E25 acc24 H39 hf S38 => ?_)
  ·
    obtain ⟨h35, hf⟩ := hf
    refine g_name (g_wipe rfl (g_yes (v_ifT (g_op (g_var rfl (g_c (v_addS h35 (acR_put S32 0 rfl (EnF.all fun _ => .str _) hl29 fun H37 (S36 : M (acR K E25 (acc24.map eS ++ [eS (x27 ++ ("x" : Str))]) :: da K (V.ref E3) ((eL eS) acc2) :: bagR a_bag_here :: Rs) H37) => ?_))))))))
    exact hp30 _ _ hf (M.sub (.cons 0 rfl (.cons 0 rfl (.cons 0 rfl (.refl _)))) S36)
  have S41 : M (da K (V.ref E25) ((eL eS) acc24) :: da K (V.ref E3) ((eL eS) acc2) :: bagR a_bag_here :: Rs) H39 := acR_fixL S38
  obtain ⟨h43, hf⟩ := hf
  refine v_catN flS S41 (M.gotA S41 1 rfl) (M.gotA S41 0 rfl) h43 fun p44 H46 (S45 : M (acR K p44 ((cat acc2 acc24).map eS) :: da K (V.ref E25) ((eL eS) acc24) :: da K (V.ref E3) ((eL eS) acc2) :: bagR a_bag_here :: Rs) H46) => ?_
  have S48 : M (da K (V.ref p44) ((eL eS) (cat acc2 acc24)) :: da K (V.ref E25) ((eL eS) acc24) :: da K (V.ref E3) ((eL eS) acc2) :: bagR a_bag_here :: Rs) H46 := acR_fixL S45
  refine g_lc (g_iStr (g_var rfl (⟨_, rfl, ?_⟩)))
  refine lc_str (K := K) (e' := eS) hf S48 (fun x53 acc50 E51 H59 kk52 N54 hl55 S58 hf hp56 hn57 => ?_) (fun E51 acc50 H65 hf S64 => ?_)
  ·
    obtain ⟨h61, hf⟩ := hf
    refine g_name (g_wipe rfl (g_yes (v_ifT (g_op (g_c (g_var rfl (v_addS h61 (acR_put S58 0 rfl (EnF.all fun _ => .str _) hl55 fun H63 (S62 : M (acR K E51 (acc50.map eS ++ [eS (("y" : Str) ++ x53)]) :: da K (V.ref p44) ((eL eS) (cat acc2 acc24)) :: da K (V.ref E25) ((eL eS) acc24) :: da K (V.ref E3) ((eL eS) acc2) :: bagR a_bag_here :: Rs) H63) => ?_))))))))
    exact hp56 _ _ hf (M.sub (.cons 0 rfl (.cons 0 rfl (.cons 0 rfl (.cons 0 rfl (.cons 0 rfl (.refl _)))))) S62)
  have S67 : M (da K (V.ref E51) ((eL eS) acc50) :: da K (V.ref p44) ((eL eS) (cat acc2 acc24)) :: da K (V.ref E25) ((eL eS) acc24) :: da K (V.ref E3) ((eL eS) acc2) :: bagR a_bag_here :: Rs) H65 := acR_fixL S64
  obtain ⟨h69, hf⟩ := hf
  refine v_catN flS S67 (M.gotA S67 1 rfl) (M.gotA S67 0 rfl) h69 fun p70 H72 (S71 : M (acR K p70 ((cat (cat acc2 acc24) acc50).map eS) :: da K (V.ref E51) ((eL eS) acc50) :: da K (V.ref p44) ((eL eS) (cat acc2 acc24)) :: da K (V.ref E25) ((eL eS) acc24) :: da K (V.ref E3) ((eL eS) acc2) :: bagR a_bag_here :: Rs) H72) => ?_
  have S74 : M (da K (V.ref p70) ((eL eS) (cat (cat acc2 acc24) acc50)) :: da K (V.ref E51) ((eL eS) acc50) :: da K (V.ref p44) ((eL eS) (cat acc2 acc24)) :: da K (V.ref E25) ((eL eS) acc24) :: da K (V.ref E3) ((eL eS) acc2) :: bagR a_bag_here :: Rs) H72 := acR_fixL S71
  refine g_nx ?_
  have S76 : M (da K (V.ref p70) ((eL eS) (cat (cat acc2 acc24) acc50)) :: bagR a_bag_here :: Rs) H72 := (M.drp (M.drp (M.drp (M.drp S74 4) 3) 2) 1)
  refine g_seq (g_asg (g_lst (g_nil (v_lsto (ds := ([] : (List Str)).map eS) S76 EnF.nilA (len_ok rfl) fun p77 H79 (S78 : M (acR K p77 (([] : (List Str)).map eS) :: da K (V.ref p70) ((eL eS) (cat (cat acc2 acc24) acc50)) :: bagR a_bag_here :: Rs) H79) => ?_))))
  refine g_nx ?_
  refine g_seq (g_for (g_iList (g_var rfl ?_)))
  refine for_N flS (K := K) (β := (List Str)) hf (fun (s81 : (List Str)) σ H' => ∃ (o86 : Option V), σ = [some (V.ref a_bag_here), some (V.int a_many), some (V.str ("abcdefghijklmnopqrstuvwxyz" : Str)), some (V.ref p70), some (V.ref p77), o86, none, none] ∧ M (acR K p77 (s81.map eS) :: da K (V.ref p70) ((eL eS) (cat (cat acc2 acc24) acc50)) :: bagR a_bag_here :: Rs) H') ⟨_, rfl, (M.sub (.cons 0 rfl (.cons 0 rfl (.cons 0 rfl (.refl _)))) S78)⟩ (fun _ _ _ h => by obtain ⟨_, _, S⟩ := h; exact S.gotA 1 rfl) ?_ ?_
  ·
    rintro x84 s81 _ H88 kk83 ⟨o86, rfl, S87⟩ hf
    refine g_name (g_if (g_andP (c1 := (!decide (x84 ∈ s81))) (c2 := (decide (((s81).length : Int) < a_many))) (fun _ hq => ?_) (fun _ hq => ?_) ?_))
    ·
      refine g_test (g_op (g_var rfl (g_var rfl (v_ninLS (M.gotO S87 0 rfl) (g_bl ?_)))))
      exact hq
    ·
      refine g_test (g_op (g_cb (g_cons (g_var rfl (g_nil (v_lenN (M.gotO S87 0 rfl) (g_var rfl (v_lt (g_bl ?_)))))))))
      exact hq
    refine v_iff hf (fun _ hf => ?_) (fun _ hf => ?_)
    ·
      refine g_drop (g_bm (g_var rfl (M.tyO S87 0 rfl (g_cons (g_var rfl (g_nil ?_))))))
      obtain ⟨h89, hf⟩ := hf
      refine v_apl (e := eS) (x := x84) S87 0 rfl (EnF.all fun _ => .str _) h89 fun H91 (S90 : M (acR K p77 ((sno s81 x84).map eS) :: da K (V.ref p70) ((eL eS) (cat (cat acc2 acc24) acc50)) :: bagR a_bag_here :: Rs) H91) => ?_
      exact ⟨_, hf, _, rfl, (M.sub (.cons 0 rfl (.cons 0 rfl (.cons 0 rfl (.refl _)))) S90)⟩
    ·
      refine g_next ?_
      exact ⟨_, hf, _, rfl, (M.sub (.cons 0 rfl (.cons 0 rfl (.cons 0 rfl (.refl _)))) S87)⟩
  rintro s81 _ H94 hf ⟨o86, rfl, S93⟩
  refine g_nx ?_
  refine g_ret (g_var rfl ?_)
  have S95 : M (da K (V.ref p77) ((eL eS) s81) :: da K (V.ref p70) ((eL eS) (cat (cat acc2 acc24) acc50)) :: bagR a_bag_here :: Rs) H94 := acR_fixL S93
  exact hk _ _ _ hf (M.sub (.cons 0 rfl (.cons 1 rfl (.tl (.refl _)))) S95)
def p_is_whole (a_thing : Int) (P : Bool → Prop) : Prop := P (true && (!false))
def sp_is_whole (K : PySem.W.Frag) : Sp := fun vs H Q _ => ∃ (Rs : List Res) (a_thing : Int) (P : Bool → Prop), vs = [(V.int a_thing)] ∧ M (Rs) H ∧ p_is_whole a_thing P ∧ ∀ (r : Bool) H', P r → M (Rs) H' → Q (V.bl r) H'
theorem len_is_whole {K : PySem.W.Frag} (vs : List V) (H : Hp) (Q : VK) (E : XK) (h : sp_is_whole K vs H Q E) : vs.length = 1 := by
  obtain ⟨Rs, a_thing, P, rfl, _⟩ := h
  rfl
abbrev t_is_whole (K : PySem.W.Frag) : TS := (tRet (tAndV (tCB (uIsi K) (tCons (tVar 0) (tCons (tC (.ty "int")) tNil))) (tNotV (tCB (uIsi K) (tCons (tVar 0) (tCons (tC (.ty "bool")) tNil))))))
theorem pure_is_whole {K : PySem.W.Frag} (vs : List V) (H : Hp) (Q : VK) (E : XK) (h : sp_is_whole K vs H Q E) : t_is_whole K { nx := fun _ H' => Q .non H', rt := Q } (L2.start ["thing"] vs) H := by
  obtain ⟨Rs, a_thing, P, rfl, S0, hf, hk⟩ := h
  show t_is_whole K _ [some (V.int a_thing)] H
  refine g_ret (g_andVP (c1 := true) (c2 := (!false)) (fun _ hq => ?_) (fun _ hq => ?_) ?_)
  ·
    refine g_cb (g_cons (g_var rfl (g_cons (g_c (g_nil (v_isq (.int _) (by decide) (b := true) rfl ?_))))))
    exact hq
  ·
    refine g_notV (g_cb (g_cons (g_var rfl (g_cons (g_c (g_nil (v_isq (.int _) (by decide) (b := false) rfl (g_bl ?_))))))))
    exact hq
  exact hk _ _ hf (M.sub (.refl _) S0)
def p_is_time (a_thing : Int) (P : Bool → Prop) : Prop := jn (fun k5 => p_is_whole a_thing fun x7 => if x7 = true then (k5 ((decide (0 ≤ a_thing)) && (decide (a_thing ≤ 1000000)))) else (k5 false)) fun c1 => P c1
def sp_is_time (K : PySem.W.Frag) : Sp := fun vs H Q _ => ∃ (Rs : List Res) (a_thing : Int) (P : Bool → Prop), vs = [(V.int a_thing)] ∧ M (Rs) H ∧ p_is_time a_thing P ∧ ∀ (r : Bool) H', P r → M (Rs) H' → Q (V.bl r) H'
theorem len_is_time {K : PySem.W.Frag} (vs : List V) (H : Hp) (Q : VK) (E : XK) (h : sp_is_time K vs H Q E) : vs.length = 1 := by
  obtain ⟨Rs, a_thing, P, rfl, _⟩ := h
  rfl
abbrev t_is_time (K : PySem.W.Frag) : TS := (tRet (tAndV (tCall (sp_is_whole K) [] E0 (tCons (tVar 0) tNil)) (tChain uLe uLe (tC (.int 0)) (tVar 0) (tC (.int 1000000)))))
theorem pure_is_time {K : PySem.W.Frag} (vs : List V) (H : Hp) (Q : VK) (E : XK) (h : sp_is_time K vs H Q E) : t_is_time K { nx := fun _ H' => Q .non H', rt := Q } (L2.start ["thing"] vs) H := by
  obtain ⟨Rs, a_thing, P, rfl, S0, hf, hk⟩ := h
  show t_is_time K _ [some (V.int a_thing)] H
  refine g_ret ?_
  refine te_cut hf (fun H => M (Rs) H) (fun kk2 P3 hP4 hf => ?_) ?_
  ·
    refine g_andV (g_call (g_cons (g_var rfl (g_nil (⟨_, _, _, rfl, S0, hf, fun x7 H9 hf (S8 : M (Rs) H9) => ?_⟩)))))
    refine g_bl (v_iff hf (fun _ hf => ?_) (fun _ hf => ?_))
    ·
      refine g_chainP (c1 := (decide (0 ≤ a_thing))) (c2 := (decide (a_thing ≤ 1000000))) (fun _ hq => ?_) (fun _ hq => ?_) (fun _ hq => v_le hq) (fun _ hq => ?_) (fun _ hq => v_le hq) ?_
      ·
        refine g_c ?_
        exact hq
      ·
        refine g_var rfl ?_
        exact hq
      ·
        refine g_c ?_
        exact hq
      exact hP4 _ _ hf (M.sub (.refl _) S8)
    ·
      exact hP4 _ _ hf (M.sub (.refl _) S8)
  intro c1 H12 hf S11
  exact hk _ _ hf (M.sub (.refl _) S11)
def p_is_name (a_thing : Str) (P : Bool → Prop) : Prop := jn (fun k5 => jn (fun k11 => ((a_thing).length ≤ 100000) ∧ if (decide (1 ≤ ((a_thing).length : Int))) = true then (k11 (decide (((a_thing).length : Int) ≤ 8))) else (k11 false)) fun c7 => k5 (!c7)) fun c1 => if c1 = true then (P false) else (forD (fun (x21 : Str) (s18 : Unit) (k19 : (Unit) → Prop) => ∃ c25, inSt x21 ("abcdefghijklmnopqrstuvwxyz" : Str) = some c25 ∧ if (!c25) = true then (P false) else (k19 ())) (strL a_thing) () fun s18 => P true)
def sp_is_name (K : PySem.W.Frag) : Sp := fun vs H Q _ => ∃ (Rs : List Res) (a_thing : Str) (P : Bool → Prop), vs = [(V.str a_thing)] ∧ M (Rs) H ∧ p_is_name a_thing P ∧ ∀ (r : Bool) H', P r → M (Rs) H' → Q (V.bl r) H'
theorem len_is_name {K : PySem.W.Frag} (vs : List V) (H : Hp) (Q : VK) (E : XK) (h : sp_is_name K vs H Q E) : vs.length = 1 := by
  obtain ⟨Rs, a_thing, P, rfl, _⟩ := h
  rfl
abbrev t_is_name_4 (K : PySem.W.Frag) : TS := (tIfS (tTest (tOp (uNotIn K) (tVar 1) (tC (.str "abcdefghijklmnopqrstuvwxyz")))) (tRet (tC (.bl false))) tNext)
abbrev t_is_name_3 (K : PySem.W.Frag) : TS := (tSeq (tFor (iStr (tVar 0)) (gName 1) (t_is_name_4 K))
  (tRet (tC (.bl true))))
abbrev t_is_name_1 (K : PySem.W.Frag) : TS := (tSeq (tIfS (tOr (tNot (tB (tCB (uIsi K) (tCons (tVar 0) (tCons (tC (.ty "str")) tNil))))) (tNot (tTest (tChain uLe uLe (tC (.int 1)) (tCB (uLen K) (tCons (tVar 0) tNil)) (tC (.int 8)))))) (tRet (tC (.bl false))) tNext)
  (t_is_name_3 K))
abbrev t_is_name (K : PySem.W.Frag) : TS := (t_is_name_1 K)
theorem pure_is_name {K : PySem.W.Frag} (vs : List V) (H : Hp) (Q : VK) (E : XK) (h : sp_is_name K vs H Q E) : t_is_name K { nx := fun _ H' => Q .non H', rt := Q } (L2.start ["thing", "letter"] vs) H := by
  obtain ⟨Rs, a_thing, P, rfl, S0, hf, hk⟩ := h
  show t_is_name K _ [some (V.str a_thing), none] H
  refine g_seq (g_if ?_)
  refine tt_cut hf (fun H => M (Rs) H) (fun kk2 P3 hP4 hf => ?_) ?_
  ·
    refine g_or (g_not (g_B (g_cb (g_cons (g_var rfl (g_cons (g_c (g_nil (v_isq (.str _) (by decide) (b := true) rfl (g_bl (v_ifcF (by decide) (g_not (g_test ?_)))))))))))))
    refine te_cut hf (fun H => M (Rs) H) (fun kk8 P9 hP10 hf => ?_) ?_
    ·
      obtain ⟨h13, hf⟩ := hf
      refine g_chain (g_c (g_cb (g_cons (g_var rfl (g_nil (v_lenS h13 (v_le (g_bl (v_iff hf (fun _ hf => ?_) (fun _ hf => ?_))))))))))
      ·
        refine g_c (v_le ?_)
        exact hP10 _ _ hf (M.sub (.refl _) S0)
      ·
        exact hP10 _ _ hf (M.sub (.refl _) S0)
    intro c7 H15 hf S14
    refine g_bl ?_
    exact hP4 _ _ hf (M.sub (.refl _) S14)
  intro c1 H17 hf S16
  refine v_iff hf (fun _ hf => ?_) (fun _ hf => ?_)
  ·
    refine g_ret (g_c ?_)
    exact hk _ _ hf (M.sub (.refl _) S16)
  ·
    refine g_next (g_nx (g_seq (g_for (g_iStr (g_var rfl (⟨_, rfl, ?_⟩))))))
    refine for_str (β := Unit) hf (fun (s18 : Unit) σ H' => ∃ (o22 : Option V), σ = [some (V.str a_thing), o22] ∧ M (Rs) H') ⟨_, rfl, (M.sub (.refl _) S16)⟩ ?_ ?_
    ·
      rintro x21 s18 _ H24 kk20 ⟨o22, rfl, S23⟩ hf
      obtain ⟨c25, h26, hf⟩ := hf
      refine g_name (g_if (g_test (g_op (g_var rfl (g_c (v_ninSt h26 (g_bl (v_iff hf (fun _ hf => ?_) (fun _ hf => ?_)))))))))
      ·
        refine g_ret (g_c ?_)
        exact hk _ _ hf (M.sub (.refl _) S23)
      ·
        refine g_next ?_
        exact ⟨_, hf, _, rfl, (M.sub (.refl _) S23)⟩
    rintro s18 _ H28 hf ⟨o22, rfl, S27⟩
    refine g_nx ?_
    refine g_ret (g_c ?_)
    exact hk _ _ hf (M.sub (.refl _) S27)
def p_is_seal (a_thing : Int) (P : Bool → Prop) : Prop := jn (fun k5 => p_is_whole a_thing fun x7 => if (!x7) = true then (k5 true) else (k5 (decide (a_thing < 1)))) fun c1 => if c1 = true then (P false) else (((-(2 ^ 62) : Int) ≤ 16 ∧ 16 < (2 ^ 62 : Int)) ∧ forD (fun (x17 : Int) (s14 : Int) (k15 : (Int) → Prop) => ((0 : Int) < 1001) ∧ if (decide ((s14 % 1001) = 0)) = true then (P false) else ((CDiv s14 1001) ∧ if (decide ((s14 / 1001) = 0)) = true then (P true) else (k15 (s14 / 1001)))) (rng 16) a_thing fun s14 => P false)
def sp_is_seal (K : PySem.W.Frag) : Sp := fun vs H Q _ => ∃ (Rs : List Res) (a_thing : Int) (P : Bool → Prop), vs = [(V.int a_thing)] ∧ M (Rs) H ∧ p_is_seal a_thing P ∧ ∀ (r : Bool) H', P r → M (Rs) H' → Q (V.bl r) H'
theorem len_is_seal {K : PySem.W.Frag} (vs : List V) (H : Hp) (Q : VK) (E : XK) (h : sp_is_seal K vs H Q E) : vs.length = 1 := by
  obtain ⟨Rs, a_thing, P, rfl, _⟩ := h
  rfl
abbrev t_is_seal_8 (K : PySem.W.Frag) : TS := (tIfS (tTest (tOp (uEq K) (tVar 1) (tC (.int 0)))) (tRet (tC (.bl true))) tNext)
abbrev t_is_seal_7 (K : PySem.W.Frag) : TS := (tSeq (tAug 1 (tC (.int 1001)) iDiv)
  (t_is_seal_8 K))
abbrev t_is_seal_5 (K : PySem.W.Frag) : TS := (tSeq (tIfS (tTest (tOp (uEq K) (tOp uMod (tVar 1) (tC (.int 1001))) (tC (.int 0)))) (tRet (tC (.bl false))) tNext)
  (t_is_seal_7 K))
abbrev t_is_seal_4 (K : PySem.W.Frag) : TS := (tSeq (tFor (iRng1 (tCons (tC (.int 16)) tNil)) (gName 2) (t_is_seal_5 K))
  (tRet (tC (.bl false))))
abbrev t_is_seal_3 (K : PySem.W.Frag) : TS := (tSeq (tAsg (tVar 0) (gName 1))
  (t_is_seal_4 K))
abbrev t_is_seal_1 (K : PySem.W.Frag) : TS := (tSeq (tIfS (tOr (tNot (tB (tCall (sp_is_whole K) [] E0 (tCons (tVar 0) tNil)))) (tTest (tOp uLt (tVar 0) (tC (.int 1))))) (tRet (tC (.bl false))) tNext)
  (t_is_seal_3 K))
abbrev t_is_seal (K : PySem.W.Frag) : TS := (t_is_seal_1 K)
theorem pure_is_seal {K : PySem.W.Frag} (vs : List V) (H : Hp) (Q : VK) (E : XK) (h : sp_is_seal K vs H Q E) : t_is_seal K { nx := fun _ H' => Q .non H', rt := Q } (L2.start ["thing", "rest", "turn"] vs) H := by
  obtain ⟨Rs, a_thing, P, rfl, S0, hf, hk⟩ := h
  show t_is_seal K _ [some (V.int a_thing), none, none] H
  refine g_seq (g_if ?_)
  refine tt_cut hf (fun H => M (Rs) H) (fun kk2 P3 hP4 hf => ?_) ?_
  ·
    refine g_or (g_not (g_B (g_call (g_cons (g_var rfl (g_nil (⟨_, _, _, rfl, S0, hf, fun x7 H9 hf (S8 : M (Rs) H9) => ?_⟩)))))))
    refine g_bl (v_iff hf (fun _ hf => ?_) (fun _ hf => ?_))
    ·
      exact hP4 _ _ hf (M.sub (.refl _) S8)
    ·
      refine g_test (g_op (g_var rfl (g_c (v_lt (g_bl ?_)))))
      exact hP4 _ _ hf (M.sub (.refl _) S8)
  intro c1 H12 hf S11
  refine v_iff hf (fun _ hf => ?_) (fun _ hf => ?_)
  ·
    refine g_ret (g_c ?_)
    exact hk _ _ hf (M.sub (.refl _) S11)
  ·
    refine g_next (g_nx (g_seq (g_asg (g_var rfl (g_nx ?_)))))
    obtain ⟨h13, hf⟩ := hf
    refine g_seq (g_for (g_iRng1 (g_cons (g_c (g_nil (v_itR h13 ?_))))))
    refine for_rng (β := Int) hf (fun (s14 : Int) σ H' => ∃ (o18 : Option V), σ = [some (V.int a_thing), some (V.int s14), o18] ∧ M (Rs) H') ⟨_, rfl, (M.sub (.refl _) S11)⟩ ?_ ?_
    ·
      rintro x17 s14 _ H20 kk16 ⟨o18, rfl, S19⟩ hf
      obtain ⟨h21, hf⟩ := hf
      refine g_name (g_seq (g_if (g_test (g_op (g_op (g_var rfl (g_c (v_mod h21 (g_c (v_eqI (g_bl (v_iff hf (fun _ hf => ?_) (fun _ hf => ?_)))))))))))))
      ·
        refine g_ret (g_c ?_)
        exact hk _ _ hf (M.sub (.refl _) S19)
      ·
        obtain ⟨h22, hf⟩ := hf
        refine g_next (g_nx (g_seq (g_aug rfl (g_c (v_idiv h22 (g_nx ?_))))))
        refine g_if (g_test (g_op (g_var rfl (g_c (v_eqI (g_bl (v_iff hf (fun _ hf => ?_) (fun _ hf => ?_))))))))
        ·
          refine g_ret (g_c ?_)
          exact hk _ _ hf (M.sub (.refl _) S19)
        ·
          refine g_next ?_
          exact ⟨_, hf, _, rfl, (M.sub (.refl _) S19)⟩
    rintro s14 _ H24 hf ⟨o18, rfl, S23⟩
    refine g_nx ?_
    refine g_ret (g_c ?_)
    exact hk _ _ hf (M.sub (.refl _) S23)
def p_are_seals (a_thing : (List Int)) (P : Bool → Prop) : Prop := if ((!true) || (decide (48 < ((a_thing).length : Int)))) = true then (P false) else (forD (fun (x4 : Int) (s1 : Unit) (k2 : (Unit) → Prop) => p_is_seal x4 fun x8 => if (!x8) = true then (P false) else (k2 ())) a_thing () fun s1 => P true)
def sp_are_seals (K : PySem.W.Frag) : Sp := fun vs H Q _ => ∃ (Rs : List Res) (R_a_thing : Res) (v_a_thing : V) (a_thing : (List Int)) (P : Bool → Prop), vs = [v_a_thing] ∧ Brw R_a_thing K v_a_thing ((eL eI) a_thing) ∧ M (R_a_thing :: Rs) H ∧ p_are_seals a_thing P ∧ ∀ (r : Bool) H', P r → M (R_a_thing :: Rs) H' → Q (V.bl r) H'
theorem len_are_seals {K : PySem.W.Frag} (vs : List V) (H : Hp) (Q : VK) (E : XK) (h : sp_are_seals K vs H Q E) : vs.length = 1 := by
  obtain ⟨Rs, R_a_thing, v_a_thing, a_thing, P, rfl, _⟩ := h
  rfl
abbrev t_are_seals_4 (K : PySem.W.Frag) : TS := (tIfS (tNot (tB (tCall (sp_is_seal K) [] E0 (tCons (tVar 1) tNil)))) (tRet (tC (.bl false))) tNext)
abbrev t_are_seals_3 (K : PySem.W.Frag) : TS := (tSeq (tFor (iList K (tVar 0)) (gName 1) (t_are_seals_4 K))
  (tRet (tC (.bl true))))
abbrev t_are_seals_1 (K : PySem.W.Frag) : TS := (tSeq (tIfS (tOr (tNot (tB (tCB (uIsi K) (tCons (tVar 0) (tCons (tC (.ty "list")) tNil))))) (tTest (tOp uGt (tCB (uLen K) (tCons (tVar 0) tNil)) (tC (.int 48))))) (tRet (tC (.bl false))) tNext)
  (t_are_seals_3 K))
abbrev t_are_seals (K : PySem.W.Frag) : TS := (t_are_seals_1 K)
theorem pure_are_seals {K : PySem.W.Frag} (vs : List V) (H : Hp) (Q : VK) (E : XK) (h : sp_are_seals K vs H Q E) : t_are_seals K { nx := fun _ H' => Q .non H', rt := Q } (L2.start ["thing", "seal"] vs) H := by
  obtain ⟨Rs, R_a_thing, v_a_thing, a_thing, P, rfl, h_a_thing, S0, hf, hk⟩ := h
  show t_are_seals K _ [some v_a_thing, none] H
  refine g_seq (g_if (g_orP (c1 := (!true)) (c2 := (decide (48 < ((a_thing).length : Int)))) (fun _ hq => ?_) (fun _ hq => ?_) ?_))
  ·
    refine g_not (g_B (g_cb (g_cons (g_var rfl (g_cons (g_c (g_nil (v_isq (Dq.dn (h_a_thing _ _ (M.at S0 0 rfl))) (by decide) (b := true) rfl (g_bl ?_)))))))))
    exact hq
  ·
    refine g_test (g_op (g_cb (g_cons (g_var rfl (g_nil (v_lenN (h_a_thing _ _ (M.at S0 0 rfl)) (g_c (v_gt (g_bl ?_)))))))))
    exact hq
  refine v_iff hf (fun _ hf => ?_) (fun _ hf => ?_)
  ·
    refine g_ret (g_c ?_)
    exact hk _ _ hf (M.sub (.cons 0 rfl (.refl _)) S0)
  ·
    refine g_next (g_nx (g_seq (g_for (g_iList (g_var rfl ?_)))))
    refine for_N flI (K := K) (β := Unit) hf (fun (s1 : Unit) σ H' => ∃ (o5 : Option V), σ = [some v_a_thing, o5] ∧ M (R_a_thing :: Rs) H') ⟨_, rfl, (M.sub (.cons 0 rfl (.refl _)) S0)⟩ (fun _ _ _ h => by obtain ⟨_, _, S⟩ := h; exact h_a_thing _ _ (S.at 0 rfl)) ?_ ?_
    ·
      rintro x4 s1 _ H7 kk3 ⟨o5, rfl, S6⟩ hf
      refine g_name (g_if (g_not (g_B (g_call (g_cons (g_var rfl (g_nil (⟨_, _, _, rfl, S6, hf, fun x8 H10 hf (S9 : M (R_a_thing :: Rs) H10) => ?_⟩))))))))
      refine g_bl (v_iff hf (fun _ hf => ?_) (fun _ hf => ?_))
      ·
        refine g_ret (g_c ?_)
        exact hk _ _ hf (M.sub (.cons 0 rfl (.refl _)) S9)
      ·
        refine g_next ?_
        exact ⟨_, hf, _, rfl, (M.sub (.cons 0 rfl (.refl _)) S9)⟩
    rintro s1 _ H13 hf ⟨o5, rfl, S12⟩
    refine g_nx ?_
    refine g_ret (g_c ?_)
    exact hk _ _ hf (M.sub (.cons 0 rfl (.refl _)) S12)
def p_is_state (a_thing : (List (Str × (List Int)))) (P : Bool → Prop) : Prop := if ((!true) || (decide (8 < ((a_thing).length : Int)))) = true then (P false) else (forD (fun (x12 : Str) (s9 : Unit) (k10 : (Unit) → Prop) => jn (fun k20 => p_is_name x12 fun x22 => if (!x22) = true then (k20 true) else (∃ x26, lk a_thing x12 = some x26 ∧ p_are_seals x26 fun x32 => k20 (!x32))) fun c16 => if c16 = true then (P false) else (k10 ())) (ks a_thing) () fun s9 => P true)
def sp_is_state (K : PySem.W.Frag) : Sp := fun vs H Q _ => ∃ (Rs : List Res) (v_a_thing : V) (a_thing : (List (Str × (List Int)))) (P : Bool → Prop), vs = [v_a_thing] ∧ M (da K v_a_thing ((eD iS (eL eI)) a_thing) :: Rs) H ∧ p_is_state a_thing P ∧ ∀ (r : Bool) H', P r → M (Rs) H' → Q (V.bl r) H'
theorem len_is_state {K : PySem.W.Frag} (vs : List V) (H : Hp) (Q : VK) (E : XK) (h : sp_is_state K vs H Q E) : vs.length = 1 := by
  obtain ⟨Rs, v_a_thing, a_thing, P, rfl, _⟩ := h
  rfl
abbrev t_is_state_4 (K : PySem.W.Frag) : TS := (tIfS (tOr (tNot (tB (tCall (sp_is_name K) [] E0 (tCons (tVar 1) tNil)))) (tNot (tB (tCall (sp_are_seals K) [] E0 (tCons (tOp rIxK (tVar 0) (tVar 1)) tNil))))) (tRet (tC (.bl false))) tNext)
abbrev t_is_state_3 (K : PySem.W.Frag) : TS := (tSeq (tLkS (tFor (iKeys (tVar 0)) (gName 1) (t_is_state_4 K)))
  (tRet (tC (.bl true))))
abbrev t_is_state_1 (K : PySem.W.Frag) : TS := (tSeq (tIfS (tOr (tNot (tB (tCB (uIsi K) (tCons (tVar 0) (tCons (tC (.ty "dict")) tNil))))) (tTest (tOp uGt (tCB (uLen K) (tCons (tVar 0) tNil)) (tC (.int 8))))) (tRet (tC (.bl false))) tNext)
  (t_is_state_3 K))
abbrev t_is_state (K : PySem.W.Frag) : TS := (t_is_state_1 K)
theorem pure_is_state {K : PySem.W.Frag} (vs : List V) (H : Hp) (Q : VK) (E : XK) (h : sp_is_state K vs H Q E) : t_is_state K { nx := fun _ H' => Q .non H', rt := Q } (L2.start ["thing", "name"] vs) H := by
  obtain ⟨Rs, v_a_thing, a_thing, P, rfl, S0, hf, hk⟩ := h
  show t_is_state K _ [some v_a_thing, none] H
  refine g_seq (g_if (g_orP (c1 := (!true)) (c2 := (decide (8 < ((a_thing).length : Int)))) (fun _ hq => ?_) (fun _ hq => ?_) ?_))
  ·
    refine g_not (g_B (g_cb (g_cons (g_var rfl (g_cons (g_c (g_nil (v_isq (Dq.dn (M.gotA S0 0 rfl)) (by decide) (b := true) rfl (g_bl ?_)))))))))
    exact hq
  ·
    refine g_test (g_op (g_cb (g_cons (g_var rfl (g_nil (DVs.len (M.dvA S0 0 rfl) (g_c (v_gt (g_bl ?_)))))))))
    exact hq
  refine v_iff hf (fun _ hf => ?_) (fun _ hf => ?_)
  ·
    refine g_ret (g_c ?_)
    exact hk _ _ hf (M.sub (.tl (.refl _)) S0)
  ·
    refine g_next (g_nx (g_seq (Or.inl (g_for (g_iKeys (g_var rfl ?_))))))
    obtain ⟨p1, od2, kvs3, e4, hk5, (S6 : M (fz p1 (.frz od2 (.dK kvs3)) :: tkR K iS (eL eI) kvs3 a_thing :: da K v_a_thing ((eD iS (eL eI)) a_thing) :: Rs) H)⟩ := (M.addA S0 (EnF.at 0 rfl)).openDk
    refine v_itK e4 (S6.gotF 0 rfl) ?_
    refine for_fz (sv := V.str) (fun _ => rfl) hk5 (β := Unit) hf (fun (s9 : Unit) σ H' => ∃ (o13 : Option V), σ = [some v_a_thing, o13] ∧ M (fz p1 (.frz od2 (.dK kvs3)) :: tkR K iS (eL eI) kvs3 a_thing :: da K v_a_thing ((eD iS (eL eI)) a_thing) :: Rs) H') ⟨_, rfl, (M.sub (.cons 0 rfl (.cons 0 rfl (.cons 0 rfl (.refl _)))) S6)⟩ (fun _ _ _ h => by obtain ⟨_, _, S⟩ := h; exact S.gotF 0 rfl) ?_ ?_
    ·
      rintro x12 s9 _ H15 kk11 ⟨o13, rfl, S14⟩ hf
      refine g_name (g_if ?_)
      refine tt_cut hf (fun H => M (fz p1 (.frz od2 (.dK kvs3)) :: tkR K iS (eL eI) kvs3 a_thing :: da K v_a_thing ((eD iS (eL eI)) a_thing) :: Rs) H) (fun kk17 P18 hP19 hf => ?_) ?_
      ·
        refine g_or (g_not (g_B (g_call (g_cons (g_var rfl (g_nil (⟨_, _, _, rfl, S14, hf, fun x22 H24 hf (S23 : M (fz p1 (.frz od2 (.dK kvs3)) :: tkR K iS (eL eI) kvs3 a_thing :: da K v_a_thing ((eD iS (eL eI)) a_thing) :: Rs) H24) => ?_⟩)))))))
        refine g_bl (v_iff hf (fun _ hf => ?_) (fun _ hf => ?_))
        ·
          exact hP19 _ _ hf (M.sub (.cons 0 rfl (.cons 0 rfl (.cons 0 rfl (.refl _)))) S23)
        ·
          refine g_not (g_B (g_call (g_cons (g_op (g_var rfl (g_var rfl ?_))))))
          obtain ⟨x26, h27, hf⟩ := hf
          refine d_ixS (M.dvA S23 2 rfl) h27 fun u28 S29 => ?_
          refine g_nil (⟨_, _, _, _, _, rfl, Brw.da, (M.addA S29 (EnF.at 0 rfl)), hf, fun x32 H34 hf (S33 : M (da K u28 ((eL eI) x26) :: da K u28 ((eL eI) x26) :: fz p1 (.frz od2 (.dK kvs3)) :: tkR K iS (eL eI) kvs3 a_thing :: da K v_a_thing ((eD iS (eL eI)) a_thing) :: Rs) H34) => ?_⟩)
          refine g_bl ?_
          exact hP19 _ _ hf (M.sub (.cons 2 rfl (.cons 2 rfl (.cons 2 rfl (.tl (.tl (.refl _)))))) S33)
      intro c16 H37 hf S36
      refine v_iff hf (fun _ hf => ?_) (fun _ hf => ?_)
      ·
        refine g_ret (g_c ?_)
        exact hk _ _ hf (M.sub (.tl (.tl (.tl (.refl _)))) S36)
      ·
        refine g_next ?_
        exact ⟨_, hf, _, rfl, (M.sub (.cons 0 rfl (.cons 0 rfl (.cons 0 rfl (.refl _)))) S36)⟩
    rintro s9 _ H39 hf ⟨o13, rfl, S38⟩
    refine g_nx ?_
    refine g_ret (g_c ?_)
    exact hk _ _ hf (M.sub (.tl (.tl (.tl (.refl _)))) S38)
def p_fit_or_wrong (a_at : PyData) (a_good : Bool) (X : Ex → Prop) (P : Unit → Prop) : Prop := if (!a_good) = true then (X (Ex.Wrong a_at)) else (P ())
def sp_fit_or_wrong (K : PySem.W.Frag) : Sp := fun vs H Q E => ∃ (Rs : List Res) (v_a_at : V) (a_at : PyData) (a_good : Bool) (X : Ex → Prop) (P : Unit → Prop), vs = [v_a_at, (V.bl a_good)] ∧ M (da K v_a_at (eA a_at) :: Rs) H ∧ p_fit_or_wrong a_at a_good X P ∧ (∀ (x : Ex) (d : Addr) (v : V) H', X x → M (pt d (.xd [(x.fld, v)]) :: da K v x.val :: Rs) H' → E (.ref (He.ga K x.cls)) (some d) H') ∧ ∀ (m0 : Unit) H', P m0 → M (Rs) H' → Q .non H'
theorem len_fit_or_wrong {K : PySem.W.Frag} (vs : List V) (H : Hp) (Q : VK) (E : XK) (h : sp_fit_or_wrong K vs H Q E) : vs.length = 2 := by
  obtain ⟨Rs, v_a_at, a_at, a_good, X, P, rfl, _⟩ := h
  rfl
abbrev t_fit_or_wrong_1 (K : PySem.W.Frag) (W : WX) : TS := (tIfS (tNot (tB (tVar 1))) (tRz W (He.ga K "Wrong") "at" (tVar 0)) tNext)
abbrev t_fit_or_wrong (K : PySem.W.Frag) (W : WX) : TS := (t_fit_or_wrong_1 K W)
theorem pure_fit_or_wrong {K : PySem.W.Frag} (T : TxC K) (vs : List V) (H : Hp) (Q : VK) (E : XK) (h : sp_fit_or_wrong K vs H Q E) : t_fit_or_wrong K (WT E) { nx := fun _ H' => Q .non H', rt := Q } (L2.start ["at", "good"] vs) H := by
  obtain ⟨Rs, v_a_at, a_at, a_good, X, P, rfl, S0, hf, hX, hk⟩ := h
  show t_fit_or_wrong K (WT E) _ [some v_a_at, some (V.bl a_good)] H
  refine g_if (g_not (g_B (g_var rfl (g_bl (v_iff hf (fun _ hf => ?_) (fun _ hf => ?_))))))
  ·
    refine g_rz (g_var rfl (v_rz S0 fun d1 H3 (S2 : M (pt d1 (.xd [("at", v_a_at)]) :: da K v_a_at (eA a_at) :: Rs) H3) => ?_))
    exact hX (Ex.Wrong a_at) d1 v_a_at _ hf (M.sub (.cons 0 rfl (.cons 0 rfl (.refl _))) S2)
  ·
    refine g_next ?_
    exact hk _ _ hf (M.sub (.tl (.refl _)) S0)
def p_own_state (a_state : (List (Str × (List Int)))) (P : (List (Str × (List Int))) → Prop) : Prop := (ks a_state).length < 64 ∧ ((srtS' (ks a_state))).length ≤ 100000 ∧ dcD (fun (x9 : Str) (acc6 : List (Str × (List Int))) (k16 : Option (Str × (List Int)) → Prop) => ∃ x17, lk a_state x9 = some x17 ∧ k16 (some (x9, x17))) (srtS' (ks a_state)) [] fun acc6 => P acc6
def sp_own_state (K : PySem.W.Frag) : Sp := fun vs H Q _ => ∃ (Rs : List Res) (v_a_state : V) (a_state : (List (Str × (List Int)))) (P : (List (Str × (List Int))) → Prop), vs = [v_a_state] ∧ M (da K v_a_state ((eD iS (eL eI)) a_state) :: Rs) H ∧ p_own_state a_state P ∧ ∀ (r : (List (Str × (List Int)))) (v : V) H', P r → M (da K v ((eD iS (eL eI)) r) :: Rs) H' → Q v H'
theorem len_own_state {K : PySem.W.Frag} (vs : List V) (H : Hp) (Q : VK) (E : XK) (h : sp_own_state K vs H Q E) : vs.length = 1 := by
  obtain ⟨Rs, v_a_state, a_state, P, rfl, _⟩ := h
  rfl
abbrev t_own_state (K : PySem.W.Frag) : TS := (tRet (tFzE (tDc (iList K (tCB rSortDS (tCons (tVar 0) tNil))) (gName 1) tYes (tVar 1) (tCB (rListOf K) (tCons (tOp rIxK (tVar 0) (tVar 1)) tNil)) [1])))
theorem pure_own_state {K : PySem.W.Frag} (vs : List V) (H : Hp) (Q : VK) (E : XK) (h : sp_own_state K vs H Q E) : t_own_state K { nx := fun _ H' => Q .non H', rt := Q } (L2.start ["state", "name"] vs) H := by
  obtain ⟨Rs, v_a_state, a_state, P, rfl, S0, hf, hk⟩ := h
  show t_own_state K _ [some v_a_state, none] H
  refine g_ret (g_dc (g_iList (g_cb (g_cons (g_var rfl (g_nil ?_))))))
  obtain ⟨h1, hf⟩ := hf
  refine d_srtS (M.dvA S0 0 rfl) h1 fun p2 H4 (S3 : M (acR K p2 ((srtS' (ks a_state)).map eS) :: da K v_a_state ((eD iS (eL eI)) a_state) :: Rs) H4) => ?_
  refine dc_N (ik := iS) flS (K := K) (e' := (eL eI)) hf S3 (fun _ S => S.gotO 0 rfl) (fun x9 acc6 E7 H15 kk8 N10 hl11 S14 hf hp12 hn13 => ?_) (fun E7 acc6 H31 hf (S30 : M (adR K iS (eL eI) E7 acc6 :: acR K p2 ((srtS' (ks a_state)).map eS) :: da K v_a_state ((eD iS (eL eI)) a_state) :: Rs) H31) => ?_)
  ·
    refine g_name (g_wipe rfl (g_yes (v_ifT (g_var rfl (g_cb (g_cons (g_op (g_var rfl (g_var rfl ?_)))))))))
    obtain ⟨x17, h18, hf⟩ := hf
    refine d_ixS (M.dvA S14 2 rfl) h18 fun u19 S20 => ?_
    refine g_nil (v_liN flI S20 (M.gotA S20 0 rfl) fun p22 H24 (S23 : M (acR K p22 (x17.map eI) :: da K u19 ((eL eI) x17) :: adR K iS (eL eI) E7 acc6 :: acR K p2 ((srtS' (ks a_state)).map eS) :: da K v_a_state ((eD iS (eL eI)) a_state) :: Rs) H24) => ?_)
    have S26 : M (da K (V.ref p22) ((eL eI) x17) :: da K u19 ((eL eI) x17) :: adR K iS (eL eI) E7 acc6 :: acR K p2 ((srtS' (ks a_state)).map eS) :: da K v_a_state ((eD iS (eL eI)) a_state) :: Rs) H24 := acR_fixL S23
    refine v_dcS (x := x17) S26 2 rfl (EnF.at 0 rfl) hl11 fun H29 (S28 : M (adR K iS (eL eI) E7 (pk acc6 x9 x17) :: da K (V.ref p22) ((eL eI) x17) :: da K u19 ((eL eI) x17) :: acR K p2 ((srtS' (ks a_state)).map eS) :: da K v_a_state ((eD iS (eL eI)) a_state) :: Rs) H29) => ?_
    exact hp12 (_, _) _ hf (M.sub (.cons 0 rfl (.cons 2 rfl (.cons 2 rfl (.tl (.tl (.refl _)))))) S28)
  refine v_fzD S30 0 rfl fun H34 (S33 : M (da K (V.ref E7) ((eD iS (eL eI)) acc6) :: acR K p2 ((srtS' (ks a_state)).map eS) :: da K v_a_state ((eD iS (eL eI)) a_state) :: Rs) H34) => ?_
  exact hk _ _ _ hf (M.sub (.cons 0 rfl (.tl (.tl (.refl _)))) S33)
def R_Links (K : PySem.W.Frag) (a : Addr) (x : (List (Int × Str)) × (List (Int × (Option Int))) × (List (Int × (List (Str × (List Int)))))) : Res := exi fun (dx : Addr) => exi fun (p0 : Addr) => exi fun (p1 : Addr) => exi fun (p2 : Addr) => sp2 (pt a (.ins (He.ga K "Links") dx [("sort_by", .ref p0), ("base_by", .ref p1), ("whole_by", .ref p2)])) (sp2 (pt dx (.own a)) (sp2 (adR K iI eS p0 x.1) (sp2 (adR K iI (eO eI) p1 x.2.1) (adR K iI (eD iS (eL eI)) p2 x.2.2))))
theorem R_Links_open {K : PySem.W.Frag} {a : Addr} {x : (List (Int × Str)) × (List (Int × (Option Int))) × (List (Int × (List (Str × (List Int)))))} {Rs : List Res} {H : Hp} (S : M (R_Links K a x :: Rs) H) : ∃ (dx : Addr) (p0 : Addr) (p1 : Addr) (p2 : Addr), M (pt a (.ins (He.ga K "Links") dx [("sort_by", .ref p0), ("base_by", .ref p1), ("whole_by", .ref p2)]) :: pt dx (.own a) :: adR K iI eS p0 x.1 :: adR K iI (eO eI) p1 x.2.1 :: adR K iI (eD iS (eL eI)) p2 x.2.2 :: Rs) H := by
  obtain ⟨dx, S⟩ := S.ex
  obtain ⟨p0, S⟩ := S.ex
  obtain ⟨p1, S⟩ := S.ex
  obtain ⟨p2, S⟩ := S.ex
  exact ⟨dx, p0, p1, p2, M.spN5 S⟩
theorem R_Links_close {K : PySem.W.Frag} {a : Addr} {x : (List (Int × Str)) × (List (Int × (Option Int))) × (List (Int × (List (Str × (List Int)))))} {Rs : List Res} {H : Hp} {dx : Addr} {p0 : Addr} {p1 : Addr} {p2 : Addr} (S : M (pt a (.ins (He.ga K "Links") dx [("sort_by", .ref p0), ("base_by", .ref p1), ("whole_by", .ref p2)]) :: pt dx (.own a) :: adR K iI eS p0 x.1 :: adR K iI (eO eI) p1 x.2.1 :: adR K iI (eD iS (eL eI)) p2 x.2.2 :: Rs) H) : M (R_Links K a x :: Rs) H := M.ex' dx <| M.ex' p0 <| M.ex' p1 <| M.ex' p2 <| M.spM5 S
theorem v_R_Links {K : PySem.W.Frag} {a : Addr} {x : (List (Int × Str)) × (List (Int × (Option Int))) × (List (Int × (List (Str × (List Int)))))} {Rs : List Res} {H : Hp} {W : WX} {m : Str} {sp : Sp} {dvs : List V} {t : TA} {σ : L2.St} {Q : VK} (S : M Rs H) (i : Nat) (e : Rs[i]? = some (R_Links K a x)) (hm : ∀ (dx : Addr) (p0 : Addr) (p1 : Addr) (p2 : Addr), List.lookup m ([("sort_by", .ref p0), ("base_by", .ref p1), ("whole_by", .ref p2)] : List (Str × V)) = none)
    (k : t σ H fun vs H2 => sp (.ref a :: (vs ++ dvs)) H2 Q (WE W σ)) : MethK W (He.ga K "Links") m sp dvs t σ Q (.ref a) H := by
  obtain ⟨dx, p0, p1, p2, S1⟩ := R_Links_open (S.at i e)
  exact v_meth (S1.got 0 rfl) (hm dx p0 p1 p2) k
theorem v_RN_Links {K : PySem.W.Frag} {a : Addr} {x : (List (Int × Str)) × (List (Int × (Option Int))) × (List (Int × (List (Str × (List Int)))))} {Rs : List Res} {H : Hp} {n l : Nat} {W : WX} {m : Str} {sp : Sp} {gV : List V → List V → List V} {t tk : TA} {σ : L2.St} {Q : VK} (S : M Rs H) (i : Nat) (e : Rs[i]? = some (R_Links K a x)) (hm : ∀ (dx : Addr) (p0 : Addr) (p1 : Addr) (p2 : Addr), List.lookup m ([("sort_by", .ref p0), ("base_by", .ref p1), ("whole_by", .ref p2)] : List (Str × V)) = none)
    (k : t σ H fun vs H2 => tk σ H2 fun zs H3 => vs.length + 1 = n ∧ zs.length = l ∧ sp (gV (.ref a :: vs) zs) H3 Q (WE W σ)) : MethKN n l W (He.ga K "Links") m sp gV t tk σ Q (.ref a) H := by
  obtain ⟨dx, p0, p1, p2, S1⟩ := R_Links_open (S.at i e)
  exact ⟨a, _, _, rfl, S1.got 0 rfl, hm dx p0 p1 p2, k⟩
theorem v_len_Links {K : PySem.W.Frag} {a : Addr} {x : (List (Int × Str)) × (List (Int × (Option Int))) × (List (Int × (List (Str × (List Int)))))} {Rs : List Res} {H : Hp} {sp : Sp} {Q : VK} (S : M Rs H) (i : Nat) (e : Rs[i]? = some (R_Links K a x)) (k : sp [.ref a] H (fun v H' => ∃ n : Int, v = .int n ∧ 0 ≤ n ∧ n < 2 ^ 63 ∧ Q (.int n) H') E0) : rLenI (He.ga K "Links") sp [.ref a] H Q := by
  obtain ⟨dx, p0, p1, p2, S1⟩ := R_Links_open (S.at i e)
  exact ⟨a, _, _, rfl, S1.got 0 rfl, k⟩
def p_Links___init__  (P : ((List (Int × Str)) × (List (Int × (Option Int))) × (List (Int × (List (Str × (List Int)))))) → Prop) : Prop := P (([] : (List (Int × Str))), ([] : (List (Int × (Option Int)))), ([] : (List (Int × (List (Str × (List Int)))))))
def sp_Links___init__ (K : PySem.W.Frag) : Sp := fun vs H Q _ => ∃ (Rs : List Res) (p_a_self d_a_self : Addr) (P : ((List (Int × Str)) × (List (Int × (Option Int))) × (List (Int × (List (Str × (List Int)))))) → Prop), vs = [(V.ref p_a_self)] ∧ M (pt p_a_self (.ins (He.ga K "Links") d_a_self []) :: pt d_a_self (.own p_a_self) :: Rs) H ∧ p_Links___init__ P ∧ ∀ (m0 : ((List (Int × Str)) × (List (Int × (Option Int))) × (List (Int × (List (Str × (List Int))))))) H', P m0 → M (R_Links K p_a_self m0 :: Rs) H' → Q .non H'
theorem len_Links___init__ {K : PySem.W.Frag} (vs : List V) (H : Hp) (Q : VK) (E : XK) (h : sp_Links___init__ K vs H Q E) : vs.length = 1 := by
  obtain ⟨Rs, p_a_self, d_a_self, P, rfl, _⟩ := h
  rfl
abbrev t_Links___init___2 (K : PySem.W.Frag) : TS := (tSeq (sFld K (tVar 0) tDNewK "base_by")
  (sFld K (tVar 0) tDNewK "whole_by"))
abbrev t_Links___init___1 (K : PySem.W.Frag) : TS := (tSeq (sFld K (tVar 0) tDNewK "sort_by")
  (t_Links___init___2 K))
abbrev t_Links___init__ (K : PySem.W.Frag) : TS := (t_Links___init___1 K)
theorem pure_Links___init__ {K : PySem.W.Frag} (T : TxC K) (vs : List V) (H : Hp) (Q : VK) (E : XK) (h : sp_Links___init__ K vs H Q E) : t_Links___init__ K { nx := fun _ H' => Q .non H', rt := Q } (L2.start ["self"] vs) H := by
  obtain ⟨Rs, p_a_self, d_a_self, P, rfl, S0, hf, hk⟩ := h
  show t_Links___init__ K _ [some (V.ref p_a_self)] H
  refine g_seq (g_sfld (v_dnewo S0 fun p1 H3 (S2 : M (adR K iI eS p1 ([] : (List (Int × Str))) :: pt p_a_self (.ins (He.ga K "Links") d_a_self []) :: pt d_a_self (.own p_a_self) :: Rs) H3) => ?_))
  refine g_var rfl (v_sfld S2 1 rfl T.cl_Links T.na_Links_sort_by (by simp) fun H6 (S5 : M (adR K iI eS p1 ([] : (List (Int × Str))) :: pt p_a_self (.ins (He.ga K "Links") d_a_self [("sort_by", (V.ref p1))]) :: pt d_a_self (.own p_a_self) :: Rs) H6) => ?_)
  refine g_nx ?_
  refine g_seq (g_sfld (v_dnewo S5 fun p7 H9 (S8 : M (adR K iI (eO eI) p7 ([] : (List (Int × (Option Int)))) :: adR K iI eS p1 ([] : (List (Int × Str))) :: pt p_a_self (.ins (He.ga K "Links") d_a_self [("sort_by", (V.ref p1))]) :: pt d_a_self (.own p_a_self) :: Rs) H9) => ?_))
  refine g_var rfl (v_sfld S8 2 rfl T.cl_Links T.na_Links_base_by (by simp) fun H12 (S11 : M (adR K iI (eO eI) p7 ([] : (List (Int × (Option Int)))) :: adR K iI eS p1 ([] : (List (Int × Str))) :: pt p_a_self (.ins (He.ga K "Links") d_a_self [("sort_by", (V.ref p1)), ("base_by", (V.ref p7))]) :: pt d_a_self (.own p_a_self) :: Rs) H12) => ?_)
  refine g_nx ?_
  refine g_sfld (v_dnewo S11 fun p13 H15 (S14 : M (adR K iI (eD iS (eL eI)) p13 ([] : (List (Int × (List (Str × (List Int)))))) :: adR K iI (eO eI) p7 ([] : (List (Int × (Option Int)))) :: adR K iI eS p1 ([] : (List (Int × Str))) :: pt p_a_self (.ins (He.ga K "Links") d_a_self [("sort_by", (V.ref p1)), ("base_by", (V.ref p7))]) :: pt d_a_self (.own p_a_self) :: Rs) H15) => ?_)
  refine g_var rfl (v_sfld S14 3 rfl T.cl_Links T.na_Links_whole_by (by simp) fun H18 (S17 : M (adR K iI (eD iS (eL eI)) p13 ([] : (List (Int × (List (Str × (List Int)))))) :: adR K iI (eO eI) p7 ([] : (List (Int × (Option Int)))) :: adR K iI eS p1 ([] : (List (Int × Str))) :: pt p_a_self (.ins (He.ga K "Links") d_a_self [("sort_by", (V.ref p1)), ("base_by", (V.ref p7)), ("whole_by", (V.ref p13))]) :: pt d_a_self (.own p_a_self) :: Rs) H18) => ?_)
  have S19 : M (R_Links K p_a_self (([] : (List (Int × Str))), ([] : (List (Int × (Option Int)))), ([] : (List (Int × (List (Str × (List Int))))))) :: Rs) H18 := R_Links_close (M.sub (.cons 3 rfl (.cons 3 rfl (.cons 2 rfl (.cons 1 rfl (.cons 0 rfl (.refl _)))))) S17)
  exact hk _ _ hf (M.sub (.cons 0 rfl (.refl _)) S19)
def p_Links_times (a_self : ((List (Int × Str)) × (List (Int × (Option Int))) × (List (Int × (List (Str × (List Int))))))) (P : (List Int) → Prop) : Prop := (ks a_self.1).length < 64 ∧ P (srt (ks a_self.1))
def sp_Links_times (K : PySem.W.Frag) : Sp := fun vs H Q _ => ∃ (Rs : List Res) (p_a_self : Addr) (a_self : ((List (Int × Str)) × (List (Int × (Option Int))) × (List (Int × (List (Str × (List Int))))))) (P : (List Int) → Prop), vs = [(V.ref p_a_self)] ∧ M (R_Links K p_a_self a_self :: Rs) H ∧ p_Links_times a_self P ∧ ∀ (r : (List Int)) (p : Addr) H', P r → M (acR K p (r.map eI) :: R_Links K p_a_self a_self :: Rs) H' → Q (.ref p) H'
theorem len_Links_times {K : PySem.W.Frag} (vs : List V) (H : Hp) (Q : VK) (E : XK) (h : sp_Links_times K vs H Q E) : vs.length = 1 := by
  obtain ⟨Rs, p_a_self, a_self, P, rfl, _⟩ := h
  rfl
abbrev t_Links_times (K : PySem.W.Frag) : TS := (tRet (tCB rSortDI (tCons (tFld K (tVar 0) "sort_by") tNil)))
theorem pure_Links_times {K : PySem.W.Frag} (T : TxC K) (vs : List V) (H : Hp) (Q : VK) (E : XK) (h : sp_Links_times K vs H Q E) : t_Links_times K { nx := fun _ H' => Q .non H', rt := Q } (L2.start ["self"] vs) H := by
  obtain ⟨Rs, p_a_self, a_self, P, rfl, S0, hf, hk⟩ := h
  show t_Links_times K _ [some (V.ref p_a_self)] H
  obtain ⟨dx2, p3, p5, p7, (S1 : M (pt p_a_self (.ins (He.ga K "Links") dx2 [("sort_by", (V.ref p3)), ("base_by", (V.ref p5)), ("whole_by", (V.ref p7))]) :: pt dx2 (.own p_a_self) :: adR K iI eS p3 a_self.1 :: adR K iI (eO eI) p5 a_self.2.1 :: adR K iI (eD iS (eL eI)) p7 a_self.2.2 :: Rs) H)⟩ := R_Links_open (S0.at 0 rfl)
  refine g_ret (g_cb (g_cons (g_fld (g_var rfl (v_fld (S1.got 0 rfl) T.cl_Links T.na_Links_sort_by rfl (g_nil ?_))))))
  obtain ⟨h11, hf⟩ := hf
  refine d_srtI (M.dvO S1 2 rfl) h11 fun p12 H14 (S13 : M (acR K p12 ((srt (ks a_self.1)).map eI) :: pt p_a_self (.ins (He.ga K "Links") dx2 [("sort_by", (V.ref p3)), ("base_by", (V.ref p5)), ("whole_by", (V.ref p7))]) :: pt dx2 (.own p_a_self) :: adR K iI eS p3 a_self.1 :: adR K iI (eO eI) p5 a_self.2.1 :: adR K iI (eD iS (eL eI)) p7 a_self.2.2 :: Rs) H14) => ?_
  have S16 : M (R_Links K p_a_self (a_self.1, a_self.2.1, a_self.2.2) :: acR K p12 ((srt (ks a_self.1)).map eI) :: Rs) H14 := R_Links_close (M.sub (.cons 1 rfl (.cons 1 rfl (.cons 1 rfl (.cons 1 rfl (.cons 1 rfl (.refl _)))))) S13)
  exact hk _ _ _ hf (M.sub (.cons 1 rfl (.cons 0 rfl (.refl _))) S16)
def p_Links_need_link (a_self : ((List (Int × Str)) × (List (Int × (Option Int))) × (List (Int × (List (Str × (List Int))))))) (a_time : Int) (X : Ex → Prop) (P : Unit → Prop) : Prop := p_is_time a_time fun x1 => p_fit_or_wrong (eI 0) x1 (fun x12 => X x12) fun _u8 => if (!(lk a_self.1 a_time).isSome) = true then (X (Ex.NoMoment (eI a_time))) else (P ())
def sp_Links_need_link (K : PySem.W.Frag) : Sp := fun vs H Q E => ∃ (Rs : List Res) (p_a_self : Addr) (a_self : ((List (Int × Str)) × (List (Int × (Option Int))) × (List (Int × (List (Str × (List Int))))))) (a_time : Int) (X : Ex → Prop) (P : Unit → Prop), vs = [(V.ref p_a_self), (V.int a_time)] ∧ M (R_Links K p_a_self a_self :: Rs) H ∧ p_Links_need_link a_self a_time X P ∧ (∀ (x : Ex) (d : Addr) (v : V) H', X x → M (pt d (.xd [(x.fld, v)]) :: da K v x.val :: R_Links K p_a_self a_self :: Rs) H' → E (.ref (He.ga K x.cls)) (some d) H') ∧ ∀ (m0 : Unit) H', P m0 → M (R_Links K p_a_self a_self :: Rs) H' → Q .non H'
theorem len_Links_need_link {K : PySem.W.Frag} (vs : List V) (H : Hp) (Q : VK) (E : XK) (h : sp_Links_need_link K vs H Q E) : vs.length = 2 := by
  obtain ⟨Rs, p_a_self, a_self, a_time, X, P, rfl, _⟩ := h
  rfl
abbrev t_Links_need_link_2 (K : PySem.W.Frag) (W : WX) : TS := (tIfS (tTest (tOp (uNotIn K) (tVar 1) (tFld K (tVar 0) "sort_by"))) (tRz W (He.ga K "NoMoment") "time" (tVar 1)) tNext)
abbrev t_Links_need_link_1 (K : PySem.W.Frag) (W : WX) : TS := (tSeq (tDrop (tCallW W (sp_fit_or_wrong K) [] (tCons (tC (.int 0)) (tCons (tCall (sp_is_time K) [] E0 (tCons (tVar 1) tNil)) tNil))))
  (t_Links_need_link_2 K W))
abbrev t_Links_need_link (K : PySem.W.Frag) (W : WX) : TS := (t_Links_need_link_1 K W)
theorem pure_Links_need_link {K : PySem.W.Frag} (T : TxC K) (vs : List V) (H : Hp) (Q : VK) (E : XK) (h : sp_Links_need_link K vs H Q E) : t_Links_need_link K (WT E) { nx := fun _ H' => Q .non H', rt := Q } (L2.start ["self", "time"] vs) H := by
  obtain ⟨Rs, p_a_self, a_self, a_time, X, P, rfl, S0, hf, hX, hk⟩ := h
  show t_Links_need_link K (WT E) _ [some (V.ref p_a_self), some (V.int a_time)] H
  refine g_seq (g_drop (g_callW (g_cons (g_c (g_cons (g_call (g_cons (g_var rfl (g_nil (⟨_, _, _, rfl, S0, hf, fun x1 H3 hf (S2 : M (R_Links K p_a_self a_self :: Rs) H3) => ?_⟩))))))))))
  refine g_nil ?_
  have S5 : M (da K (V.int 0) (eI 0) :: R_Links K p_a_self a_self :: Rs) H3 := M.addA S2 (EnF.all fun _ => .int _)
  refine ⟨_, _, _, _, _, _, rfl, (M.addA S5 (EnF.at 0 rfl)), hf, fun x12 d13 v14 H16 hf (S15 : M (pt d13 (.xd [(x12.fld, v14)]) :: da K v14 x12.val :: da K (V.int 0) (eI 0) :: R_Links K p_a_self a_self :: Rs) H16) => ?_, fun _u8 H10 hf (S9 : M (da K (V.int 0) (eI 0) :: R_Links K p_a_self a_self :: Rs) H10) => ?_⟩
  ·
    exact hX x12 d13 v14 _ hf (M.sub (.cons 0 rfl (.cons 0 rfl (.cons 1 rfl (.tl (.refl _))))) S15)
  refine g_nx ?_
  have S19 : M (R_Links K p_a_self a_self :: Rs) H10 := (M.drp S9 0)
  obtain ⟨dx21, p22, p24, p26, (S20 : M (pt p_a_self (.ins (He.ga K "Links") dx21 [("sort_by", (V.ref p22)), ("base_by", (V.ref p24)), ("whole_by", (V.ref p26))]) :: pt dx21 (.own p_a_self) :: adR K iI eS p22 a_self.1 :: adR K iI (eO eI) p24 a_self.2.1 :: adR K iI (eD iS (eL eI)) p26 a_self.2.2 :: Rs) H10)⟩ := R_Links_open (S19.at 0 rfl)
  refine g_if (g_test (g_op (g_var rfl (g_fld (g_var rfl (v_fld (S20.got 0 rfl) T.cl_Links T.na_Links_sort_by rfl (d_ninI (M.dvO S20 2 rfl) (g_bl (v_iff hf (fun _ hf => ?_) (fun _ hf => ?_))))))))))
  ·
    refine g_rz (g_var rfl ?_)
    have S30 : M (da K (V.int a_time) (eI a_time) :: pt p_a_self (.ins (He.ga K "Links") dx21 [("sort_by", (V.ref p22)), ("base_by", (V.ref p24)), ("whole_by", (V.ref p26))]) :: pt dx21 (.own p_a_self) :: adR K iI eS p22 a_self.1 :: adR K iI (eO eI) p24 a_self.2.1 :: adR K iI (eD iS (eL eI)) p26 a_self.2.2 :: Rs) H10 := M.addA S20 (EnF.all fun _ => .int _)
    refine v_rz S30 fun d32 H34 (S33 : M (pt d32 (.xd [("time", (V.int a_time))]) :: da K (V.int a_time) (eI a_time) :: pt p_a_self (.ins (He.ga K "Links") dx21 [("sort_by", (V.ref p22)), ("base_by", (V.ref p24)), ("whole_by", (V.ref p26))]) :: pt dx21 (.own p_a_self) :: adR K iI eS p22 a_self.1 :: adR K iI (eO eI) p24 a_self.2.1 :: adR K iI (eD iS (eL eI)) p26 a_self.2.2 :: Rs) H34) => ?_
    have S36 : M (R_Links K p_a_self (a_self.1, a_self.2.1, a_self.2.2) :: pt d32 (.xd [("time", (V.int a_time))]) :: da K (V.int a_time) (eI a_time) :: Rs) H34 := R_Links_close (M.sub (.cons 2 rfl (.cons 2 rfl (.cons 2 rfl (.cons 2 rfl (.cons 2 rfl (.refl _)))))) S33)
    exact hX (Ex.NoMoment (eI a_time)) d32 (V.int a_time) _ hf (M.sub (.cons 1 rfl (.cons 1 rfl (.cons 0 rfl (.refl _)))) S36)
  ·
    refine g_next ?_
    have S38 : M (R_Links K p_a_self (a_self.1, a_self.2.1, a_self.2.2) :: Rs) H10 := R_Links_close (M.sub (.cons 0 rfl (.cons 0 rfl (.cons 0 rfl (.cons 0 rfl (.cons 0 rfl (.refl _)))))) S20)
    exact hk _ _ hf (M.sub (.cons 0 rfl (.refl _)) S38)
def p_Links_kind (a_self : ((List (Int × Str)) × (List (Int × (Option Int))) × (List (Int × (List (Str × (List Int))))))) (a_time : Int) (X : Ex → Prop) (P : Str → Prop) : Prop := p_Links_need_link a_self a_time (fun x5 => X x5) fun _u1 => ∃ x22, lk a_self.1 a_time = some x22 ∧ P x22
def sp_Links_kind (K : PySem.W.Frag) : Sp := fun vs H Q E => ∃ (Rs : List Res) (p_a_self : Addr) (a_self : ((List (Int × Str)) × (List (Int × (Option Int))) × (List (Int × (List (Str × (List Int))))))) (a_time : Int) (X : Ex → Prop) (P : Str → Prop), vs = [(V.ref p_a_self), (V.int a_time)] ∧ M (R_Links K p_a_self a_self :: Rs) H ∧ p_Links_kind a_self a_time X P ∧ (∀ (x : Ex) (d : Addr) (v : V) H', X x → M (pt d (.xd [(x.fld, v)]) :: da K v x.val :: R_Links K p_a_self a_self :: Rs) H' → E (.ref (He.ga K x.cls)) (some d) H') ∧ ∀ (r : Str) H', P r → M (R_Links K p_a_self a_self :: Rs) H' → Q (V.str r) H'
theorem len_Links_kind {K : PySem.W.Frag} (vs : List V) (H : Hp) (Q : VK) (E : XK) (h : sp_Links_kind K vs H Q E) : vs.length = 2 := by
  obtain ⟨Rs, p_a_self, a_self, a_time, X, P, rfl, _⟩ := h
  rfl
abbrev t_Links_kind_1 (K : PySem.W.Frag) (W : WX) : TS := (tSeq (tDrop (tMethW W (He.ga K "Links") "need_link" (sp_Links_need_link K) [] (tVar 0) (tCons (tVar 1) tNil)))
  (tRet (tOp rIxK (tFld K (tVar 0) "sort_by") (tVar 1))))
abbrev t_Links_kind (K : PySem.W.Frag) (W : WX) : TS := (t_Links_kind_1 K W)
theorem pure_Links_kind {K : PySem.W.Frag} (T : TxC K) (vs : List V) (H : Hp) (Q : VK) (E : XK) (h : sp_Links_kind K vs H Q E) : t_Links_kind K (WT E) { nx := fun _ H' => Q .non H', rt := Q } (L2.start ["self", "time"] vs) H := by
  obtain ⟨Rs, p_a_self, a_self, a_time, X, P, rfl, S0, hf, hX, hk⟩ := h
  show t_Links_kind K (WT E) _ [some (V.ref p_a_self), some (V.int a_time)] H
  refine g_seq (g_drop (g_meth (g_var rfl (v_R_Links S0 0 rfl (fun _ _ _ _ => rfl) (g_cons (g_var rfl (g_nil (⟨_, _, _, _, _, _, rfl, (M.at S0 0 rfl), hf, fun x5 d6 v7 H9 hf (S8 : M (pt d6 (.xd [(x5.fld, v7)]) :: da K v7 x5.val :: R_Links K p_a_self a_self :: Rs) H9) => ?_, fun _u1 H3 hf (S2 : M (R_Links K p_a_self a_self :: Rs) H3) => ?_⟩))))))))
  ·
    exact hX x5 d6 v7 _ hf (M.sub (.cons 0 rfl (.cons 0 rfl (.cons 0 rfl (.refl _)))) S8)
  refine g_nx ?_
  obtain ⟨dx13, p14, p16, p18, (S12 : M (pt p_a_self (.ins (He.ga K "Links") dx13 [("sort_by", (V.ref p14)), ("base_by", (V.ref p16)), ("whole_by", (V.ref p18))]) :: pt dx13 (.own p_a_self) :: adR K iI eS p14 a_self.1 :: adR K iI (eO eI) p16 a_self.2.1 :: adR K iI (eD iS (eL eI)) p18 a_self.2.2 :: Rs) H3)⟩ := R_Links_open (S2.at 0 rfl)
  refine g_ret (g_op (g_fld (g_var rfl (v_fld (S12.got 0 rfl) T.cl_Links T.na_Links_sort_by rfl (g_var rfl ?_)))))
  obtain ⟨x22, h23, hf⟩ := hf
  refine d_ixI (M.dvO S12 2 rfl) h23 fun u24 S25 => ?_
  obtain rfl := (S25.gotA 0 rfl).strV
  have S26 := S25.tl
  have S27 : M (R_Links K p_a_self (a_self.1, a_self.2.1, a_self.2.2) :: Rs) H3 := R_Links_close (M.sub (.cons 0 rfl (.cons 0 rfl (.cons 0 rfl (.cons 0 rfl (.cons 0 rfl (.refl _)))))) S26)
  exact hk _ _ hf (M.sub (.cons 0 rfl (.refl _)) S27)
def p_Links_base (a_self : ((List (Int × Str)) × (List (Int × (Option Int))) × (List (Int × (List (Str × (List Int))))))) (a_time : Int) (X : Ex → Prop) (P : (Option Int) → Prop) : Prop := p_Links_need_link a_self a_time (fun x5 => X x5) fun _u1 => ∃ x22, lk a_self.2.1 a_time = some x22 ∧ P x22
def sp_Links_base (K : PySem.W.Frag) : Sp := fun vs H Q E => ∃ (Rs : List Res) (p_a_self : Addr) (a_self : ((List (Int × Str)) × (List (Int × (Option Int))) × (List (Int × (List (Str × (List Int))))))) (a_time : Int) (X : Ex → Prop) (P : (Option Int) → Prop), vs = [(V.ref p_a_self), (V.int a_time)] ∧ M (R_Links K p_a_self a_self :: Rs) H ∧ p_Links_base a_self a_time X P ∧ (∀ (x : Ex) (d : Addr) (v : V) H', X x → M (pt d (.xd [(x.fld, v)]) :: da K v x.val :: R_Links K p_a_self a_self :: Rs) H' → E (.ref (He.ga K x.cls)) (some d) H') ∧ ∀ (r : (Option Int)) (v : V) H', P r → M (da K v ((eO eI) r) :: R_Links K p_a_self a_self :: Rs) H' → Q v H'
theorem len_Links_base {K : PySem.W.Frag} (vs : List V) (H : Hp) (Q : VK) (E : XK) (h : sp_Links_base K vs H Q E) : vs.length = 2 := by
  obtain ⟨Rs, p_a_self, a_self, a_time, X, P, rfl, _⟩ := h
  rfl
abbrev t_Links_base_1 (K : PySem.W.Frag) (W : WX) : TS := (tSeq (tDrop (tMethW W (He.ga K "Links") "need_link" (sp_Links_need_link K) [] (tVar 0) (tCons (tVar 1) tNil)))
  (tRet (tOp rIxK (tFld K (tVar 0) "base_by") (tVar 1))))
abbrev t_Links_base (K : PySem.W.Frag) (W : WX) : TS := (t_Links_base_1 K W)
theorem pure_Links_base {K : PySem.W.Frag} (T : TxC K) (vs : List V) (H : Hp) (Q : VK) (E : XK) (h : sp_Links_base K vs H Q E) : t_Links_base K (WT E) { nx := fun _ H' => Q .non H', rt := Q } (L2.start ["self", "time"] vs) H := by
  obtain ⟨Rs, p_a_self, a_self, a_time, X, P, rfl, S0, hf, hX, hk⟩ := h
  show t_Links_base K (WT E) _ [some (V.ref p_a_self), some (V.int a_time)] H
  refine g_seq (g_drop (g_meth (g_var rfl (v_R_Links S0 0 rfl (fun _ _ _ _ => rfl) (g_cons (g_var rfl (g_nil (⟨_, _, _, _, _, _, rfl, (M.at S0 0 rfl), hf, fun x5 d6 v7 H9 hf (S8 : M (pt d6 (.xd [(x5.fld, v7)]) :: da K v7 x5.val :: R_Links K p_a_self a_self :: Rs) H9) => ?_, fun _u1 H3 hf (S2 : M (R_Links K p_a_self a_self :: Rs) H3) => ?_⟩))))))))
  ·
    exact hX x5 d6 v7 _ hf (M.sub (.cons 0 rfl (.cons 0 rfl (.cons 0 rfl (.refl _)))) S8)
  refine g_nx ?_
  obtain ⟨dx13, p14, p16, p18, (S12 : M (pt p_a_self (.ins (He.ga K "Links") dx13 [("sort_by", (V.ref p14)), ("base_by", (V.ref p16)), ("whole_by", (V.ref p18))]) :: pt dx13 (.own p_a_self) :: adR K iI eS p14 a_self.1 :: adR K iI (eO eI) p16 a_self.2.1 :: adR K iI (eD iS (eL eI)) p18 a_self.2.2 :: Rs) H3)⟩ := R_Links_open (S2.at 0 rfl)
  refine g_ret (g_op (g_fld (g_var rfl (v_fld (S12.got 0 rfl) T.cl_Links T.na_Links_base_by rfl (g_var rfl ?_)))))
  obtain ⟨x22, h23, hf⟩ := hf
  refine d_ixI (M.dvO S12 3 rfl) h23 fun u24 S25 => ?_
  have S27 : M (R_Links K p_a_self (a_self.1, a_self.2.1, a_self.2.2) :: da K u24 ((eO eI) x22) :: Rs) H3 := R_Links_close (M.sub (.cons 1 rfl (.cons 1 rfl (.cons 1 rfl (.cons 1 rfl (.cons 1 rfl (.refl _)))))) S25)
  exact hk _ _ _ hf (M.sub (.cons 1 rfl (.cons 0 rfl (.refl _))) S27)
def p_Links_state (a_self : ((List (Int × Str)) × (List (Int × (Option Int))) × (List (Int × (List (Str × (List Int))))))) (a_time : Int) (X : Ex → Prop) (P : (List (Str × (List Int))) → Prop) : Prop := p_Links_need_link a_self a_time (fun x5 => X x5) fun _u1 => ∃ x22, lk a_self.2.2 a_time = some x22 ∧ p_own_state x22 fun x28 => P x28
def sp_Links_state (K : PySem.W.Frag) : Sp := fun vs H Q E => ∃ (Rs : List Res) (p_a_self : Addr) (a_self : ((List (Int × Str)) × (List (Int × (Option Int))) × (List (Int × (List (Str × (List Int))))))) (a_time : Int) (X : Ex → Prop) (P : (List (Str × (List Int))) → Prop), vs = [(V.ref p_a_self), (V.int a_time)] ∧ M (R_Links K p_a_self a_self :: Rs) H ∧ p_Links_state a_self a_time X P ∧ (∀ (x : Ex) (d : Addr) (v : V) H', X x → M (pt d (.xd [(x.fld, v)]) :: da K v x.val :: R_Links K p_a_self a_self :: Rs) H' → E (.ref (He.ga K x.cls)) (some d) H') ∧ ∀ (r : (List (Str × (List Int)))) (v : V) H', P r → M (da K v ((eD iS (eL eI)) r) :: R_Links K p_a_self a_self :: Rs) H' → Q v H'
theorem len_Links_state {K : PySem.W.Frag} (vs : List V) (H : Hp) (Q : VK) (E : XK) (h : sp_Links_state K vs H Q E) : vs.length = 2 := by
  obtain ⟨Rs, p_a_self, a_self, a_time, X, P, rfl, _⟩ := h
  rfl
abbrev t_Links_state_1 (K : PySem.W.Frag) (W : WX) : TS := (tSeq (tDrop (tMethW W (He.ga K "Links") "need_link" (sp_Links_need_link K) [] (tVar 0) (tCons (tVar 1) tNil)))
  (tRet (tCall (sp_own_state K) [] E0 (tCons (tOp rIxK (tFld K (tVar 0) "whole_by") (tVar 1)) tNil))))
abbrev t_Links_state (K : PySem.W.Frag) (W : WX) : TS := (t_Links_state_1 K W)
theorem pure_Links_state {K : PySem.W.Frag} (T : TxC K) (vs : List V) (H : Hp) (Q : VK) (E : XK) (h : sp_Links_state K vs H Q E) : t_Links_state K (WT E) { nx := fun _ H' => Q .non H', rt := Q } (L2.start ["self", "time"] vs) H := by
  obtain ⟨Rs, p_a_self, a_self, a_time, X, P, rfl, S0, hf, hX, hk⟩ := h
  show t_Links_state K (WT E) _ [some (V.ref p_a_self), some (V.int a_time)] H
  refine g_seq (g_drop (g_meth (g_var rfl (v_R_Links S0 0 rfl (fun _ _ _ _ => rfl) (g_cons (g_var rfl (g_nil (⟨_, _, _, _, _, _, rfl, (M.at S0 0 rfl), hf, fun x5 d6 v7 H9 hf (S8 : M (pt d6 (.xd [(x5.fld, v7)]) :: da K v7 x5.val :: R_Links K p_a_self a_self :: Rs) H9) => ?_, fun _u1 H3 hf (S2 : M (R_Links K p_a_self a_self :: Rs) H3) => ?_⟩))))))))
  ·
    exact hX x5 d6 v7 _ hf (M.sub (.cons 0 rfl (.cons 0 rfl (.cons 0 rfl (.refl _)))) S8)
  refine g_nx ?_
  obtain ⟨dx13, p14, p16, p18, (S12 : M (pt p_a_self (.ins (He.ga K "Links") dx13 [("sort_by", (V.ref p14)), ("base_by", (V.ref p16)), ("whole_by", (V.ref p18))]) :: pt dx13 (.own p_a_self) :: adR K iI eS p14 a_self.1 :: adR K iI (eO eI) p16 a_self.2.1 :: adR K iI (eD iS (eL eI)) p18 a_self.2.2 :: Rs) H3)⟩ := R_Links_open (S2.at 0 rfl)
  refine g_ret (g_call (g_cons (g_op (g_fld (g_var rfl (v_fld (S12.got 0 rfl) T.cl_Links T.na_Links_whole_by rfl (g_var rfl ?_)))))))
  obtain ⟨x22, h23, hf⟩ := hf
  refine d_ixI (M.dvO S12 4 rfl) h23 fun u24 S25 => ?_
  refine g_nil (⟨_, _, _, _, rfl, (M.addA S25 (EnF.at 0 rfl)), hf, fun x28 u31 H30 hf (S29 : M (da K u31 ((eD iS (eL eI)) x28) :: da K u24 ((eD iS (eL eI)) x22) :: pt p_a_self (.ins (He.ga K "Links") dx13 [("sort_by", (V.ref p14)), ("base_by", (V.ref p16)), ("whole_by", (V.ref p18))]) :: pt dx13 (.own p_a_self) :: adR K iI eS p14 a_self.1 :: adR K iI (eO eI) p16 a_self.2.1 :: adR K iI (eD iS (eL eI)) p18 a_self.2.2 :: Rs) H30) => ?_⟩)
  have S33 : M (R_Links K p_a_self (a_self.1, a_self.2.1, a_self.2.2) :: da K u31 ((eD iS (eL eI)) x28) :: da K u24 ((eD iS (eL eI)) x22) :: Rs) H30 := R_Links_close (M.sub (.cons 2 rfl (.cons 2 rfl (.cons 2 rfl (.cons 2 rfl (.cons 2 rfl (.refl _)))))) S29)
  exact hk _ _ _ hf (M.sub (.cons 1 rfl (.cons 0 rfl (.tl (.refl _)))) S33)
def p_Links_base_ahead (a_self : ((List (Int × Str)) × (List (Int × (Option Int))) × (List (Int × (List (Str × (List Int))))))) (a_time : Int) (a_kind : Str) (X : Ex → Prop) (P : (Option Int) → Prop) : Prop := if ((lk a_self.1 a_time).isSome) = true then (X (Ex.There (eI a_time))) else (if (decide (24 ≤ ((a_self.1).length : Int))) = true then (X (Ex.TooMany (eI 24))) else (if (decide (a_kind = ("full" : Str))) = true then (P (none : (Option Int))) else ((ks a_self.1).length ≤ 100000 ∧ lcD (fun (x34 : Int) (k41 : Option Int → Prop) => jn (fun k48 => if (decide (x34 < a_time)) = true then (jn (fun k54 => if (decide (a_kind = ("step" : Str))) = true then (k54 true) else (∃ x56, lk a_self.1 x34 = some x56 ∧ k54 (decide (x56 = ("full" : Str))))) fun c50 => k48 c50) else (k48 false)) fun c44 => if c44 = true then (k41 (some x34)) else (k41 none)) (ks a_self.1) [] fun acc31 => if (decide (acc31 = ([] : (List Int)))) = true then (X (Ex.NoBase (eI a_time))) else (∃ m87, mxI acc31 = some m87 ∧ P (some m87)))))
def sp_Links_base_ahead (K : PySem.W.Frag) : Sp := fun vs H Q E => ∃ (Rs : List Res) (p_a_self : Addr) (a_self : ((List (Int × Str)) × (List (Int × (Option Int))) × (List (Int × (List (Str × (List Int))))))) (a_time : Int) (a_kind : Str) (X : Ex → Prop) (P : (Option Int) → Prop), vs = [(V.ref p_a_self), (V.int a_time), (V.str a_kind)] ∧ M (R_Links K p_a_self a_self :: Rs) H ∧ p_Links_base_ahead a_self a_time a_kind X P ∧ (∀ (x : Ex) (d : Addr) (v : V) H', X x → M (pt d (.xd [(x.fld, v)]) :: da K v x.val :: R_Links K p_a_self a_self :: Rs) H' → E (.ref (He.ga K x.cls)) (some d) H') ∧ ∀ (r : (Option Int)) (v : V) H', P r → M (da K v ((eO eI) r) :: R_Links K p_a_self a_self :: Rs) H' → Q v H'
theorem len_Links_base_ahead {K : PySem.W.Frag} (vs : List V) (H : Hp) (Q : VK) (E : XK) (h : sp_Links_base_ahead K vs H Q E) : vs.length = 3 := by
  obtain ⟨Rs, p_a_self, a_self, a_time, a_kind, X, P, rfl, _⟩ := h
  rfl
abbrev t_Links_base_ahead_8 (K : PySem.W.Frag) (W : WX) : TS := (tSeq (tIfS (tTest (tOp (uEq K) (tVar 3) (tLst tNil))) (tRz W (He.ga K "NoBase") "time" (tVar 1)) tNext)
  (tRet (tCB (rMax K) (tCons (tVar 3) tNil))))
abbrev t_Links_base_ahead_7 (K : PySem.W.Frag) (W : WX) : TS := (tSeq (tLkS (tAsg (tLc (iKeys (tFld K (tVar 0) "sort_by")) (gName 4) (tAnd (tTest (tOp uLt (tVar 4) (tVar 1))) (tOr (tTest (tOp (uEq K) (tVar 2) (tC (.str "step")))) (tTest (tOp (uEq K) (tOp rIxK (tFld K (tVar 0) "sort_by") (tVar 4)) (tC (.str "full")))))) (tVar 4) [4]) (gName 3)))
  (t_Links_base_ahead_8 K W))
abbrev t_Links_base_ahead_5 (K : PySem.W.Frag) (W : WX) : TS := (tSeq (tIfS (tTest (tOp (uEq K) (tVar 2) (tC (.str "full")))) (tRet (tC .non)) tNext)
  (t_Links_base_ahead_7 K W))
abbrev t_Links_base_ahead_3 (K : PySem.W.Frag) (W : WX) : TS := (tSeq (tIfS (tTest (tOp uGe (tCB (uLen K) (tCons (tFld K (tVar 0) "sort_by") tNil)) (tC (.int 24)))) (tRz W (He.ga K "TooMany") "most" (tC (.int 24))) tNext)
  (t_Links_base_ahead_5 K W))
abbrev t_Links_base_ahead_1 (K : PySem.W.Frag) (W : WX) : TS := (tSeq (tIfS (tTest (tOp (uIn K) (tVar 1) (tFld K (tVar 0) "sort_by"))) (tRz W (He.ga K "There") "thing" (tVar 1)) tNext)
  (t_Links_base_ahead_3 K W))
abbrev t_Links_base_ahead (K : PySem.W.Frag) (W : WX) : TS := (t_Links_base_ahead_1 K W)
theorem pure_Links_base_ahead {K : PySem.W.Frag} (T : TxC K) (vs : List V) (H : Hp) (Q : VK) (E : XK) (h : sp_Links_base_ahead K vs H Q E) : t_Links_base_ahead K (WT E) { nx := fun _ H' => Q .non H', rt := Q } (L2.start ["self", "time", "kind", "ahead", "one"] vs) H := by
  obtain ⟨Rs, p_a_self, a_self, a_time, a_kind, X, P, rfl, S0, hf, hX, hk⟩ := h
  show t_Links_base_ahead K (WT E) _ [some (V.ref p_a_self), some (V.int a_time), some (V.str a_kind), none, none] H
  obtain ⟨dx2, p3, p5, p7, (S1 : M (pt p_a_self (.ins (He.ga K "Links") dx2 [("sort_by", (V.ref p3)), ("base_by", (V.ref p5)), ("whole_by", (V.ref p7))]) :: pt dx2 (.own p_a_self) :: adR K iI eS p3 a_self.1 :: adR K iI (eO eI) p5 a_self.2.1 :: adR K iI (eD iS (eL eI)) p7 a_self.2.2 :: Rs) H)⟩ := R_Links_open (S0.at 0 rfl)
  refine g_seq (g_if (g_test (g_op (g_var rfl (g_fld (g_var rfl (v_fld (S1.got 0 rfl) T.cl_Links T.na_Links_sort_by rfl (d_inI (M.dvO S1 2 rfl) (g_bl (v_iff hf (fun _ hf => ?_) (fun _ hf => ?_)))))))))))
  ·
    refine g_rz (g_var rfl ?_)
    have S11 : M (da K (V.int a_time) (eI a_time) :: pt p_a_self (.ins (He.ga K "Links") dx2 [("sort_by", (V.ref p3)), ("base_by", (V.ref p5)), ("whole_by", (V.ref p7))]) :: pt dx2 (.own p_a_self) :: adR K iI eS p3 a_self.1 :: adR K iI (eO eI) p5 a_self.2.1 :: adR K iI (eD iS (eL eI)) p7 a_self.2.2 :: Rs) H := M.addA S1 (EnF.all fun _ => .int _)
    refine v_rz S11 fun d13 H15 (S14 : M (pt d13 (.xd [("thing", (V.int a_time))]) :: da K (V.int a_time) (eI a_time) :: pt p_a_self (.ins (He.ga K "Links") dx2 [("sort_by", (V.ref p3)), ("base_by", (V.ref p5)), ("whole_by", (V.ref p7))]) :: pt dx2 (.own p_a_self) :: adR K iI eS p3 a_self.1 :: adR K iI (eO eI) p5 a_self.2.1 :: adR K iI (eD iS (eL eI)) p7 a_self.2.2 :: Rs) H15) => ?_
    have S17 : M (R_Links K p_a_self (a_self.1, a_self.2.1, a_self.2.2) :: pt d13 (.xd [("thing", (V.int a_time))]) :: da K (V.int a_time) (eI a_time) :: Rs) H15 := R_Links_close (M.sub (.cons 2 rfl (.cons 2 rfl (.cons 2 rfl (.cons 2 rfl (.cons 2 rfl (.refl _)))))) S14)
    exact hX (Ex.There (eI a_time)) d13 (V.int a_time) _ hf (M.sub (.cons 1 rfl (.cons 1 rfl (.cons 0 rfl (.refl _)))) S17)
  ·
    refine g_next (g_nx (g_seq (g_if (g_test (g_op (g_cb (g_cons (g_fld (g_var rfl (v_fld (S1.got 0 rfl) T.cl_Links T.na_Links_sort_by rfl (g_nil (DVs.len (M.dvO S1 2 rfl) (g_c (v_ge (g_bl (v_iff hf (fun _ hf => ?_) (fun _ hf => ?_)))))))))))))))))
    ·
      refine g_rz (g_c ?_)
      have S19 : M (da K (V.int 24) (eI 24) :: pt p_a_self (.ins (He.ga K "Links") dx2 [("sort_by", (V.ref p3)), ("base_by", (V.ref p5)), ("whole_by", (V.ref p7))]) :: pt dx2 (.own p_a_self) :: adR K iI eS p3 a_self.1 :: adR K iI (eO eI) p5 a_self.2.1 :: adR K iI (eD iS (eL eI)) p7 a_self.2.2 :: Rs) H := M.addA S1 (EnF.all fun _ => .int _)
      refine v_rz S19 fun d21 H23 (S22 : M (pt d21 (.xd [("most", (V.int 24))]) :: da K (V.int 24) (eI 24) :: pt p_a_self (.ins (He.ga K "Links") dx2 [("sort_by", (V.ref p3)), ("base_by", (V.ref p5)), ("whole_by", (V.ref p7))]) :: pt dx2 (.own p_a_self) :: adR K iI eS p3 a_self.1 :: adR K iI (eO eI) p5 a_self.2.1 :: adR K iI (eD iS (eL eI)) p7 a_self.2.2 :: Rs) H23) => ?_
      have S25 : M (R_Links K p_a_self (a_self.1, a_self.2.1, a_self.2.2) :: pt d21 (.xd [("most", (V.int 24))]) :: da K (V.int 24) (eI 24) :: Rs) H23 := R_Links_close (M.sub (.cons 2 rfl (.cons 2 rfl (.cons 2 rfl (.cons 2 rfl (.cons 2 rfl (.refl _)))))) S22)
      exact hX (Ex.TooMany (eI 24)) d21 (V.int 24) _ hf (M.sub (.cons 1 rfl (.cons 1 rfl (.cons 0 rfl (.refl _)))) S25)
    ·
      refine g_next (g_nx (g_seq (g_if (g_test (g_op (g_var rfl (g_c (v_eqS (g_bl (v_iff hf (fun _ hf => ?_) (fun _ hf => ?_)))))))))))
      ·
        refine g_ret (g_c ?_)
        have S27 : M (da K V.non ((eO eI) (none : (Option Int))) :: pt p_a_self (.ins (He.ga K "Links") dx2 [("sort_by", (V.ref p3)), ("base_by", (V.ref p5)), ("whole_by", (V.ref p7))]) :: pt dx2 (.own p_a_self) :: adR K iI eS p3 a_self.1 :: adR K iI (eO eI) p5 a_self.2.1 :: adR K iI (eD iS (eL eI)) p7 a_self.2.2 :: Rs) H := M.addA S1 (EnF.all fun _ => .non)
        have S29 : M (R_Links K p_a_self (a_self.1, a_self.2.1, a_self.2.2) :: da K V.non ((eO eI) (none : (Option Int))) :: Rs) H := R_Links_close (M.sub (.cons 1 rfl (.cons 1 rfl (.cons 1 rfl (.cons 1 rfl (.cons 1 rfl (.refl _)))))) S27)
        exact hk _ _ _ hf (M.sub (.cons 1 rfl (.cons 0 rfl (.refl _))) S29)
      ·
        refine g_next (g_nx (g_seq (asg_lk (g_asg ?_))))
        have S43 : M (bdR K iI eS (V.ref p3) a_self.1 DF.own :: pt p_a_self (.ins (He.ga K "Links") dx2 [("sort_by", (V.ref p3)), ("base_by", (V.ref p5)), ("whole_by", (V.ref p7))]) :: pt dx2 (.own p_a_self) :: adR K iI (eO eI) p5 a_self.2.1 :: adR K iI (eD iS (eL eI)) p7 a_self.2.2 :: Rs) H := bd_open (M.at S1 2 rfl)
        refine lc_kys (K := K) (sv := V.int) (e' := eI) (fun _ => rfl) hf S43 0 rfl (fun _ _ _ S q => g_fld (g_var rfl (v_fld (S.got 1 rfl) T.cl_Links T.na_Links_sort_by rfl q))) (fun f42 x34 acc31 E32 H40 kk33 N35 hl36 S39 hf hp37 hn38 => ?_) (fun E32 acc31 H68 hf (S67 : M (acR K E32 (acc31.map eI) :: bdR K iI eS (V.ref p3) a_self.1 DF.own :: pt p_a_self (.ins (He.ga K "Links") dx2 [("sort_by", (V.ref p3)), ("base_by", (V.ref p5)), ("whole_by", (V.ref p7))]) :: pt dx2 (.own p_a_self) :: adR K iI (eO eI) p5 a_self.2.1 :: adR K iI (eD iS (eL eI)) p7 a_self.2.2 :: Rs) H68) => ?_)
        ·
          refine g_name (g_wipe rfl ?_)
          refine tt_cut hf (fun H => M (acR K E32 (acc31.map eI) :: bdR K iI eS (V.ref p3) a_self.1 f42 :: pt p_a_self (.ins (He.ga K "Links") dx2 [("sort_by", (V.ref p3)), ("base_by", (V.ref p5)), ("whole_by", (V.ref p7))]) :: pt dx2 (.own p_a_self) :: adR K iI (eO eI) p5 a_self.2.1 :: adR K iI (eD iS (eL eI)) p7 a_self.2.2 :: Rs) H) (fun kk45 P46 hP47 hf => ?_) ?_
          ·
            refine g_and (g_test (g_op (g_var rfl (g_var rfl (v_lt (g_bl (v_iff hf (fun _ hf => ?_) (fun _ hf => ?_))))))))
            ·
              refine tt_cut hf (fun H => M (acR K E32 (acc31.map eI) :: bdR K iI eS (V.ref p3) a_self.1 f42 :: pt p_a_self (.ins (He.ga K "Links") dx2 [("sort_by", (V.ref p3)), ("base_by", (V.ref p5)), ("whole_by", (V.ref p7))]) :: pt dx2 (.own p_a_self) :: adR K iI (eO eI) p5 a_self.2.1 :: adR K iI (eD iS (eL eI)) p7 a_self.2.2 :: Rs) H) (fun kk51 P52 hP53 hf => ?_) ?_
              ·
                refine g_or (g_test (g_op (g_var rfl (g_c (v_eqS (g_bl (v_iff hf (fun _ hf => ?_) (fun _ hf => ?_))))))))
                ·
                  exact hP53 _ _ hf (M.sub (.cons 0 rfl (.cons 0 rfl (.cons 0 rfl (.cons 0 rfl (.cons 0 rfl (.cons 0 rfl (.refl _))))))) S39)
                ·
                  refine g_test (g_op (g_op (g_fld (g_var rfl (v_fld (S39.got 2 rfl) T.cl_Links T.na_Links_sort_by rfl (g_var rfl ?_))))))
                  obtain ⟨x56, h57, hf⟩ := hf
                  refine d_ixI (M.dvB S39 1 rfl) h57 fun u58 S59 => ?_
                  obtain rfl := (S59.gotA 0 rfl).strV
                  have S60 := S59.tl
                  refine g_c (v_eqS (g_bl ?_))
                  exact hP53 _ _ hf (M.sub (.cons 0 rfl (.cons 0 rfl (.cons 0 rfl (.cons 0 rfl (.cons 0 rfl (.cons 0 rfl (.refl _))))))) S60)
              intro c50 H62 hf S61
              exact hP47 _ _ hf (M.sub (.cons 0 rfl (.cons 0 rfl (.cons 0 rfl (.cons 0 rfl (.cons 0 rfl (.cons 0 rfl (.refl _))))))) S61)
            ·
              exact hP47 _ _ hf (M.sub (.cons 0 rfl (.cons 0 rfl (.cons 0 rfl (.cons 0 rfl (.cons 0 rfl (.cons 0 rfl (.refl _))))))) S39)
          intro c44 H64 hf S63
          refine v_iff hf (fun _ hf => ?_) (fun _ hf => ?_)
          ·
            refine g_var rfl (acR_put S63 0 rfl (EnF.all fun _ => .int _) hl36 fun H66 (S65 : M (acR K E32 (acc31.map eI ++ [eI x34]) :: bdR K iI eS (V.ref p3) a_self.1 f42 :: pt p_a_self (.ins (He.ga K "Links") dx2 [("sort_by", (V.ref p3)), ("base_by", (V.ref p5)), ("whole_by", (V.ref p7))]) :: pt dx2 (.own p_a_self) :: adR K iI (eO eI) p5 a_self.2.1 :: adR K iI (eD iS (eL eI)) p7 a_self.2.2 :: Rs) H66) => ?_)
            exact hp37 _ _ hf (M.sub (.cons 0 rfl (.cons 0 rfl (.cons 0 rfl (.cons 0 rfl (.cons 0 rfl (.cons 0 rfl (.refl _))))))) S65)
          ·
            exact hn38 _ hf (M.sub (.cons 0 rfl (.cons 0 rfl (.cons 0 rfl (.cons 0 rfl (.cons 0 rfl (.cons 0 rfl (.refl _))))))) S63)
        have S70 : M (adR K iI eS p3 a_self.1 :: acR K E32 (acc31.map eI) :: pt p_a_self (.ins (He.ga K "Links") dx2 [("sort_by", (V.ref p3)), ("base_by", (V.ref p5)), ("whole_by", (V.ref p7))]) :: pt dx2 (.own p_a_self) :: adR K iI (eO eI) p5 a_self.2.1 :: adR K iI (eD iS (eL eI)) p7 a_self.2.2 :: Rs) H68 := bd_close (M.at S67 1 rfl)
        have S71 : M (da K (V.ref E32) ((eL eI) acc31) :: adR K iI eS p3 a_self.1 :: pt p_a_self (.ins (He.ga K "Links") dx2 [("sort_by", (V.ref p3)), ("base_by", (V.ref p5)), ("whole_by", (V.ref p7))]) :: pt dx2 (.own p_a_self) :: adR K iI (eO eI) p5 a_self.2.1 :: adR K iI (eD iS (eL eI)) p7 a_self.2.2 :: Rs) H68 := acR_fixL (S70.at 1 rfl)
        refine g_nx ?_
        refine g_seq (g_if (g_test (g_op (g_var rfl (g_lst (g_nil (v_lsto (ds := ([] : (List Int)).map eI) S71 EnF.nilA (len_ok rfl) fun p73 H75 (S74 : M (acR K p73 (([] : (List Int)).map eI) :: da K (V.ref E32) ((eL eI) acc31) :: adR K iI eS p3 a_self.1 :: pt p_a_self (.ins (He.ga K "Links") dx2 [("sort_by", (V.ref p3)), ("base_by", (V.ref p5)), ("whole_by", (V.ref p7))]) :: pt dx2 (.own p_a_self) :: adR K iI (eO eI) p5 a_self.2.1 :: adR K iI (eD iS (eL eI)) p7 a_self.2.2 :: Rs) H75) => ?_)))))))
        have S77 : M (da K (V.ref p73) ((eL eI) ([] : (List Int))) :: da K (V.ref E32) ((eL eI) acc31) :: adR K iI eS p3 a_self.1 :: pt p_a_self (.ins (He.ga K "Links") dx2 [("sort_by", (V.ref p3)), ("base_by", (V.ref p5)), ("whole_by", (V.ref p7))]) :: pt dx2 (.own p_a_self) :: adR K iI (eO eI) p5 a_self.2.1 :: adR K iI (eD iS (eL eI)) p7 a_self.2.2 :: Rs) H75 := acR_fixL S74
        refine v_eqLI (M.gotA S77 1 rfl) (M.gotA S77 0 rfl) (g_bl (v_iff hf (fun _ hf => ?_) (fun _ hf => ?_)))
        ·
          refine g_rz (g_var rfl ?_)
          have S79 : M (da K (V.int a_time) (eI a_time) :: da K (V.ref p73) ((eL eI) ([] : (List Int))) :: da K (V.ref E32) ((eL eI) acc31) :: adR K iI eS p3 a_self.1 :: pt p_a_self (.ins (He.ga K "Links") dx2 [("sort_by", (V.ref p3)), ("base_by", (V.ref p5)), ("whole_by", (V.ref p7))]) :: pt dx2 (.own p_a_self) :: adR K iI (eO eI) p5 a_self.2.1 :: adR K iI (eD iS (eL eI)) p7 a_self.2.2 :: Rs) H75 := M.addA S77 (EnF.all fun _ => .int _)
          refine v_rz S79 fun d81 H83 (S82 : M (pt d81 (.xd [("time", (V.int a_time))]) :: da K (V.int a_time) (eI a_time) :: da K (V.ref p73) ((eL eI) ([] : (List Int))) :: da K (V.ref E32) ((eL eI) acc31) :: adR K iI eS p3 a_self.1 :: pt p_a_self (.ins (He.ga K "Links") dx2 [("sort_by", (V.ref p3)), ("base_by", (V.ref p5)), ("whole_by", (V.ref p7))]) :: pt dx2 (.own p_a_self) :: adR K iI (eO eI) p5 a_self.2.1 :: adR K iI (eD iS (eL eI)) p7 a_self.2.2 :: Rs) H83) => ?_
          have S85 : M (R_Links K p_a_self (a_self.1, a_self.2.1, a_self.2.2) :: pt d81 (.xd [("time", (V.int a_time))]) :: da K (V.int a_time) (eI a_time) :: da K (V.ref p73) ((eL eI) ([] : (List Int))) :: da K (V.ref E32) ((eL eI) acc31) :: Rs) H83 := R_Links_close (M.sub (.cons 5 rfl (.cons 5 rfl (.cons 4 rfl (.cons 4 rfl (.cons 4 rfl (.refl _)))))) S82)
          exact hX (Ex.NoBase (eI a_time)) d81 (V.int a_time) _ hf (M.sub (.cons 1 rfl (.cons 1 rfl (.cons 0 rfl (.tl (.tl (.refl _)))))) S85)
        ·
          refine g_next (g_nx (g_ret (g_cb (g_cons (g_var rfl (g_nil ?_))))))
          obtain ⟨m87, h88, hf⟩ := hf
          refine v_max (M.gotA S77 1 rfl) h88 ?_
          have S89 : M (da K (V.int m87) ((eO eI) (some m87)) :: da K (V.ref p73) ((eL eI) ([] : (List Int))) :: da K (V.ref E32) ((eL eI) acc31) :: adR K iI eS p3 a_self.1 :: pt p_a_self (.ins (He.ga K "Links") dx2 [("sort_by", (V.ref p3)), ("base_by", (V.ref p5)), ("whole_by", (V.ref p7))]) :: pt dx2 (.own p_a_self) :: adR K iI (eO eI) p5 a_self.2.1 :: adR K iI (eD iS (eL eI)) p7 a_self.2.2 :: Rs) H75 := M.addA S77 (EnF.all fun _ => .int _)
          have S91 : M (R_Links K p_a_self (a_self.1, a_self.2.1, a_self.2.2) :: da K (V.int m87) ((eO eI) (some m87)) :: da K (V.ref p73) ((eL eI) ([] : (List Int))) :: da K (V.ref E32) ((eL eI) acc31) :: Rs) H75 := R_Links_close (M.sub (.cons 4 rfl (.cons 4 rfl (.cons 3 rfl (.cons 3 rfl (.cons 3 rfl (.refl _)))))) S89)
          exact hk _ _ _ hf (M.sub (.cons 1 rfl (.cons 0 rfl (.tl (.tl (.refl _))))) S91)
def p_Links_put (a_self : ((List (Int × Str)) × (List (Int × (Option Int))) × (List (Int × (List (Str × (List Int))))))) (a_time : Int) (a_state : (List (Str × (List Int)))) (a_kind : Str) (X : Ex → ((List (Int × Str)) × (List (Int × (Option Int))) × (List (Int × (List (Str × (List Int)))))) → Prop) (P : ((List (Int × Str)) × (List (Int × (Option Int))) × (List (Int × (List (Str × (List Int)))))) → Prop) : Prop := p_is_time a_time fun x1 => p_fit_or_wrong (eI 0) x1 (fun x12 => X x12 a_self) fun _u8 => p_is_state a_state fun x21 => p_fit_or_wrong (eI 1) x21 (fun x32 => X x32 a_self) fun _u28 => p_fit_or_wrong (eS ("kind" : Str)) (([("full" : Str), ("step" : Str), ("wide" : Str)]).any fun y => decide (y = a_kind)) (fun x49 => X x49 a_self) fun _u45 => p_Links_base_ahead a_self a_time a_kind (fun x62 => X x62 a_self) fun x57 => (a_self.1).length < 100000 ∧ (a_self.2.1).length < 100000 ∧ p_own_state a_state fun x88 => (a_self.2.2).length < 100000 ∧ P ((pk a_self.1 a_time a_kind), (pk a_self.2.1 a_time x57), (pk a_self.2.2 a_time x88))
def sp_Links_put (K : PySem.W.Frag) : Sp := fun vs H Q E => ∃ (Rs : List Res) (p_a_self : Addr) (a_self : ((List (Int × Str)) × (List (Int × (Option Int))) × (List (Int × (List (Str × (List Int))))))) (a_time : Int) (v_a_state : V) (a_state : (List (Str × (List Int)))) (a_kind : Str) (X : Ex → ((List (Int × Str)) × (List (Int × (Option Int))) × (List (Int × (List (Str × (List Int)))))) → Prop) (P : ((List (Int × Str)) × (List (Int × (Option Int))) × (List (Int × (List (Str × (List Int)))))) → Prop), vs = [(V.ref p_a_self), (V.int a_time), v_a_state, (V.str a_kind)] ∧ M (R_Links K p_a_self a_self :: da K v_a_state ((eD iS (eL eI)) a_state) :: Rs) H ∧ p_Links_put a_self a_time a_state a_kind X P ∧ (∀ (x : Ex) (m0 : ((List (Int × Str)) × (List (Int × (Option Int))) × (List (Int × (List (Str × (List Int))))))) (d : Addr) (v : V) H', X x m0 → M (pt d (.xd [(x.fld, v)]) :: da K v x.val :: R_Links K p_a_self m0 :: Rs) H' → E (.ref (He.ga K x.cls)) (some d) H') ∧ ∀ (m0 : ((List (Int × Str)) × (List (Int × (Option Int))) × (List (Int × (List (Str × (List Int))))))) H', P m0 → M (R_Links K p_a_self m0 :: Rs) H' → Q .non H'
theorem len_Links_put {K : PySem.W.Frag} (vs : List V) (H : Hp) (Q : VK) (E : XK) (h : sp_Links_put K vs H Q E) : vs.length = 4 := by
  obtain ⟨Rs, p_a_self, a_self, a_time, v_a_state, a_state, a_kind, X, P, rfl, _⟩ := h
  rfl
abbrev t_Links_put_6 (K : PySem.W.Frag) (W : WX) : TS := (tSeq (tAsg (tVar 4) (gSub (tFld K (tVar 0) "base_by") (tVar 1) uSet))
  (tAsg (tCall (sp_own_state K) [] E0 (tCons (tVar 2) tNil)) (gSub (tFld K (tVar 0) "whole_by") (tVar 1) uSet)))
abbrev t_Links_put_5 (K : PySem.W.Frag) (W : WX) : TS := (tSeq (tAsg (tVar 3) (gSub (tFld K (tVar 0) "sort_by") (tVar 1) uSet))
  (t_Links_put_6 K W))
abbrev t_Links_put_4 (K : PySem.W.Frag) (W : WX) : TS := (tSeq (tAsg (tMethW W (He.ga K "Links") "base_ahead" (sp_Links_base_ahead K) [] (tVar 0) (tCons (tVar 1) (tCons (tVar 3) tNil))) (gName 4))
  (t_Links_put_5 K W))
abbrev t_Links_put_3 (K : PySem.W.Frag) (W : WX) : TS := (tSeq (tDrop (tCallW W (sp_fit_or_wrong K) [] (tCons (tC (.str "kind")) (tCons (tOp (uIn K) (tVar 3) (tC (.ref (He.ga K "KINDS")))) tNil))))
  (t_Links_put_4 K W))
abbrev t_Links_put_2 (K : PySem.W.Frag) (W : WX) : TS := (tSeq (tDrop (tCallW W (sp_fit_or_wrong K) [] (tCons (tC (.int 1)) (tCons (tCall (sp_is_state K) [] E0 (tCons (tVar 2) tNil)) tNil))))
  (t_Links_put_3 K W))
abbrev t_Links_put_1 (K : PySem.W.Frag) (W : WX) : TS := (tSeq (tDrop (tCallW W (sp_fit_or_wrong K) [] (tCons (tC (.int 0)) (tCons (tCall (sp_is_time K) [] E0 (tCons (tVar 1) tNil)) tNil))))
  (t_Links_put_2 K W))
abbrev t_Links_put (K : PySem.W.Frag) (W : WX) : TS := (t_Links_put_1 K W)
theorem pure_Links_put {K : PySem.W.Frag} (T : TxC K) (vs : List V) (H : Hp) (Q : VK) (E : XK) (h : sp_Links_put K vs H Q E) : t_Links_put K (WT E) { nx := fun _ H' => Q .non H', rt := Q } (L2.start ["self", "time", "state", "kind", "base"] vs) H := by
  obtain ⟨Rs, p_a_self, a_self, a_time, v_a_state, a_state, a_kind, X, P, rfl, S0, hf, hX, hk⟩ := h
  show t_Links_put K (WT E) _ [some (V.ref p_a_self), some (V.int a_time), some v_a_state, some (V.str a_kind), none] H
  refine g_seq (g_drop (g_callW (g_cons (g_c (g_cons (g_call (g_cons (g_var rfl (g_nil (⟨_, _, _, rfl, S0, hf, fun x1 H3 hf (S2 : M (R_Links K p_a_self a_self :: da K v_a_state ((eD iS (eL eI)) a_state) :: Rs) H3) => ?_⟩))))))))))
  refine g_nil ?_
  have S5 : M (da K (V.int 0) (eI 0) :: R_Links K p_a_self a_self :: da K v_a_state ((eD iS (eL eI)) a_state) :: Rs) H3 := M.addA S2 (EnF.all fun _ => .int _)
  refine ⟨_, _, _, _, _, _, rfl, (M.addA S5 (EnF.at 0 rfl)), hf, fun x12 d13 v14 H16 hf (S15 : M (pt d13 (.xd [(x12.fld, v14)]) :: da K v14 x12.val :: da K (V.int 0) (eI 0) :: R_Links K p_a_self a_self :: da K v_a_state ((eD iS (eL eI)) a_state) :: Rs) H16) => ?_, fun _u8 H10 hf (S9 : M (da K (V.int 0) (eI 0) :: R_Links K p_a_self a_self :: da K v_a_state ((eD iS (eL eI)) a_state) :: Rs) H10) => ?_⟩
  ·
    exact hX x12 _ d13 v14 _ hf (M.sub (.cons 0 rfl (.cons 0 rfl (.cons 1 rfl (.tl (.tl (.refl _)))))) S15)
  refine g_nx ?_
  have S19 : M (R_Links K p_a_self a_self :: da K v_a_state ((eD iS (eL eI)) a_state) :: Rs) H10 := (M.drp S9 0)
  refine g_seq (g_drop (g_callW (g_cons (g_c (g_cons (g_call (g_cons (g_var rfl (g_nil (⟨_, _, _, _, rfl, (M.addA S19 (EnF.at 1 rfl)), hf, fun x21 H23 hf (S22 : M (R_Links K p_a_self a_self :: da K v_a_state ((eD iS (eL eI)) a_state) :: Rs) H23) => ?_⟩))))))))))
  refine g_nil ?_
  have S25 : M (da K (V.int 1) (eI 1) :: R_Links K p_a_self a_self :: da K v_a_state ((eD iS (eL eI)) a_state) :: Rs) H23 := M.addA S22 (EnF.all fun _ => .int _)
  refine ⟨_, _, _, _, _, _, rfl, (M.addA S25 (EnF.at 0 rfl)), hf, fun x32 d33 v34 H36 hf (S35 : M (pt d33 (.xd [(x32.fld, v34)]) :: da K v34 x32.val :: da K (V.int 1) (eI 1) :: R_Links K p_a_self a_self :: da K v_a_state ((eD iS (eL eI)) a_state) :: Rs) H36) => ?_, fun _u28 H30 hf (S29 : M (da K (V.int 1) (eI 1) :: R_Links K p_a_self a_self :: da K v_a_state ((eD iS (eL eI)) a_state) :: Rs) H30) => ?_⟩
  ·
    exact hX x32 _ d33 v34 _ hf (M.sub (.cons 0 rfl (.cons 0 rfl (.cons 1 rfl (.tl (.tl (.refl _)))))) S35)
  refine g_nx ?_
  have S39 : M (R_Links K p_a_self a_self :: da K v_a_state ((eD iS (eL eI)) a_state) :: Rs) H30 := (M.drp S29 0)
  have S40 : M (da K (V.ref (He.ga K "KINDS")) ((eV eS) [("full" : Str), ("step" : Str), ("wide" : Str)]) :: R_Links K p_a_self a_self :: da K v_a_state ((eD iS (eL eI)) a_state) :: Rs) H30 := M.addA S39 (EnF.all fun F => .tup (T.ct_KINDS F) (flS.ofA [("full" : Str), ("step" : Str), ("wide" : Str)]))
  refine g_seq (g_drop (g_callW (g_cons (g_c (g_cons (g_op (g_var rfl (g_c (v_inV (M.gotA S40 0 rfl) (g_nil ?_))))))))))
  have S42 : M (da K (V.str ("kind" : Str)) (eS ("kind" : Str)) :: da K (V.ref (He.ga K "KINDS")) ((eV eS) [("full" : Str), ("step" : Str), ("wide" : Str)]) :: R_Links K p_a_self a_self :: da K v_a_state ((eD iS (eL eI)) a_state) :: Rs) H30 := M.addA S40 (EnF.all fun _ => .str _)
  refine ⟨_, _, _, _, _, _, rfl, (M.addA S42 (EnF.at 0 rfl)), hf, fun x49 d50 v51 H53 hf (S52 : M (pt d50 (.xd [(x49.fld, v51)]) :: da K v51 x49.val :: da K (V.str ("kind" : Str)) (eS ("kind" : Str)) :: da K (V.ref (He.ga K "KINDS")) ((eV eS) [("full" : Str), ("step" : Str), ("wide" : Str)]) :: R_Links K p_a_self a_self :: da K v_a_state ((eD iS (eL eI)) a_state) :: Rs) H53) => ?_, fun _u45 H47 hf (S46 : M (da K (V.str ("kind" : Str)) (eS ("kind" : Str)) :: da K (V.ref (He.ga K "KINDS")) ((eV eS) [("full" : Str), ("step" : Str), ("wide" : Str)]) :: R_Links K p_a_self a_self :: da K v_a_state ((eD iS (eL eI)) a_state) :: Rs) H47) => ?_⟩
  ·
    exact hX x49 _ d50 v51 _ hf (M.sub (.cons 0 rfl (.cons 0 rfl (.cons 2 rfl (.tl (.tl (.tl (.refl _))))))) S52)
  refine g_nx ?_
  have S56 : M (R_Links K p_a_self a_self :: da K v_a_state ((eD iS (eL eI)) a_state) :: Rs) H47 := (M.drp (M.drp S46 1) 0)
  refine g_seq (g_asg (g_meth (g_var rfl (v_R_Links S56 0 rfl (fun _ _ _ _ => rfl) (g_cons (g_var rfl (g_cons (g_var rfl (g_nil (⟨_, _, _, _, _, _, _, rfl, (M.at S56 0 rfl), hf, fun x62 d63 v64 H66 hf (S65 : M (pt d63 (.xd [(x62.fld, v64)]) :: da K v64 x62.val :: R_Links K p_a_self a_self :: da K v_a_state ((eD iS (eL eI)) a_state) :: Rs) H66) => ?_, fun x57 u60 H59 hf (S58 : M (da K u60 ((eO eI) x57) :: R_Links K p_a_self a_self :: da K v_a_state ((eD iS (eL eI)) a_state) :: Rs) H59) => ?_⟩))))))))))
  ·
    exact hX x62 _ d63 v64 _ hf (M.sub (.cons 0 rfl (.cons 0 rfl (.cons 0 rfl (.tl (.refl _))))) S65)
  refine g_nx ?_
  obtain ⟨dx70, p71, p73, p75, (S69 : M (pt p_a_self (.ins (He.ga K "Links") dx70 [("sort_by", (V.ref p71)), ("base_by", (V.ref p73)), ("whole_by", (V.ref p75))]) :: pt dx70 (.own p_a_self) :: adR K iI eS p71 a_self.1 :: adR K iI (eO eI) p73 a_self.2.1 :: adR K iI (eD iS (eL eI)) p75 a_self.2.2 :: da K u60 ((eO eI) x57) :: da K v_a_state ((eD iS (eL eI)) a_state) :: Rs) H59)⟩ := R_Links_open (S58.at 1 rfl)
  refine g_seq (g_asgX (g_var rfl (g_sub (g_fld (g_var rfl (v_fld (S69.got 0 rfl) T.cl_Links T.na_Links_sort_by rfl (g_var rfl ?_)))))))
  obtain ⟨h79, hf⟩ := hf
  refine v_putdI (e := eS) (x := a_kind) S69 2 rfl (EnF.all fun _ => .str _) h79 fun H81 (S80 : M (adR K iI eS p71 (pk a_self.1 a_time a_kind) :: pt p_a_self (.ins (He.ga K "Links") dx70 [("sort_by", (V.ref p71)), ("base_by", (V.ref p73)), ("whole_by", (V.ref p75))]) :: pt dx70 (.own p_a_self) :: adR K iI (eO eI) p73 a_self.2.1 :: adR K iI (eD iS (eL eI)) p75 a_self.2.2 :: da K u60 ((eO eI) x57) :: da K v_a_state ((eD iS (eL eI)) a_state) :: Rs) H81) => ?_
  refine g_nx ?_
  refine g_seq (g_asgX (g_var rfl (g_sub (g_fld (g_var rfl (v_fld (S80.got 1 rfl) T.cl_Links T.na_Links_base_by rfl (g_var rfl ?_)))))))
  obtain ⟨h83, hf⟩ := hf
  refine v_putdI (e := (eO eI)) (x := x57) S80 3 rfl (EnF.at 5 rfl) h83 fun H85 (S84 : M (adR K iI (eO eI) p73 (pk a_self.2.1 a_time x57) :: adR K iI eS p71 (pk a_self.1 a_time a_kind) :: pt p_a_self (.ins (He.ga K "Links") dx70 [("sort_by", (V.ref p71)), ("base_by", (V.ref p73)), ("whole_by", (V.ref p75))]) :: pt dx70 (.own p_a_self) :: adR K iI (eD iS (eL eI)) p75 a_self.2.2 :: da K u60 ((eO eI) x57) :: da K v_a_state ((eD iS (eL eI)) a_state) :: Rs) H85) => ?_
  refine g_nx ?_
  refine g_asgX (g_call (g_cons (g_var rfl (g_nil (⟨_, _, _, _, rfl, (M.addA S84 (EnF.at 6 rfl)), hf, fun x88 u91 H90 hf (S89 : M (da K u91 ((eD iS (eL eI)) x88) :: adR K iI (eO eI) p73 (pk a_self.2.1 a_time x57) :: adR K iI eS p71 (pk a_self.1 a_time a_kind) :: pt p_a_self (.ins (He.ga K "Links") dx70 [("sort_by", (V.ref p71)), ("base_by", (V.ref p73)), ("whole_by", (V.ref p75))]) :: pt dx70 (.own p_a_self) :: adR K iI (eD iS (eL eI)) p75 a_self.2.2 :: da K u60 ((eO eI) x57) :: da K v_a_state ((eD iS (eL eI)) a_state) :: Rs) H90) => ?_⟩)))))
  refine g_sub (g_fld (g_var rfl (v_fld (S89.got 3 rfl) T.cl_Links T.na_Links_whole_by rfl (g_var rfl ?_))))
  obtain ⟨h93, hf⟩ := hf
  refine v_putdI (e := (eD iS (eL eI))) (x := x88) S89 5 rfl (EnF.at 0 rfl) h93 fun H95 (S94 : M (adR K iI (eD iS (eL eI)) p75 (pk a_self.2.2 a_time x88) :: da K u91 ((eD iS (eL eI)) x88) :: adR K iI (eO eI) p73 (pk a_self.2.1 a_time x57) :: adR K iI eS p71 (pk a_self.1 a_time a_kind) :: pt p_a_self (.ins (He.ga K "Links") dx70 [("sort_by", (V.ref p71)), ("base_by", (V.ref p73)), ("whole_by", (V.ref p75))]) :: pt dx70 (.own p_a_self) :: da K u60 ((eO eI) x57) :: da K v_a_state ((eD iS (eL eI)) a_state) :: Rs) H95) => ?_
  have S97 : M (R_Links K p_a_self ((pk a_self.1 a_time a_kind), (pk a_self.2.1 a_time x57), (pk a_self.2.2 a_time x88)) :: da K u91 ((eD iS (eL eI)) x88) :: da K u60 ((eO eI) x57) :: da K v_a_state ((eD iS (eL eI)) a_state) :: Rs) H95 := R_Links_close (M.sub (.cons 4 rfl (.cons 4 rfl (.cons 3 rfl (.cons 2 rfl (.cons 0 rfl (.refl _)))))) S94)
  exact hk _ _ hf (M.sub (.cons 0 rfl (.tl (.tl (.tl (.refl _))))) S97)
def p_Links_merge (a_self : ((List (Int × Str)) × (List (Int × (Option Int))) × (List (Int × (List (Str × (List Int))))))) (a_time : Int) (X : Ex → ((List (Int × Str)) × (List (Int × (Option Int))) × (List (Int × (List (Str × (List Int)))))) → Prop) (P : ((List (Int × Str)) × (List (Int × (Option Int))) × (List (Int × (List (Str × (List Int)))))) → Prop) : Prop := p_Links_need_link a_self a_time (fun x5 => X x5 a_self) fun _u1 => (a_self.1).length < 100000 ∧ (a_self.2.1).length < 100000 ∧ P ((pk a_self.1 a_time ("full" : Str)), (pk a_self.2.1 a_time (none : (Option Int))), a_self.2.2)
def sp_Links_merge (K : PySem.W.Frag) : Sp := fun vs H Q E => ∃ (Rs : List Res) (p_a_self : Addr) (a_self : ((List (Int × Str)) × (List (Int × (Option Int))) × (List (Int × (List (Str × (List Int))))))) (a_time : Int) (X : Ex → ((List (Int × Str)) × (List (Int × (Option Int))) × (List (Int × (List (Str × (List Int)))))) → Prop) (P : ((List (Int × Str)) × (List (Int × (Option Int))) × (List (Int × (List (Str × (List Int)))))) → Prop), vs = [(V.ref p_a_self), (V.int a_time)] ∧ M (R_Links K p_a_self a_self :: Rs) H ∧ p_Links_merge a_self a_time X P ∧ (∀ (x : Ex) (m0 : ((List (Int × Str)) × (List (Int × (Option Int))) × (List (Int × (List (Str × (List Int))))))) (d : Addr) (v : V) H', X x m0 → M (pt d (.xd [(x.fld, v)]) :: da K v x.val :: R_Links K p_a_self m0 :: Rs) H' → E (.ref (He.ga K x.cls)) (some d) H') ∧ ∀ (m0 : ((List (Int × Str)) × (List (Int × (Option Int))) × (List (Int × (List (Str × (List Int))))))) H', P m0 → M (R_Links K p_a_self m0 :: Rs) H' → Q .non H'
theorem len_Links_merge {K : PySem.W.Frag} (vs : List V) (H : Hp) (Q : VK) (E : XK) (h : sp_Links_merge K vs H Q E) : vs.length = 2 := by
  obtain ⟨Rs, p_a_self, a_self, a_time, X, P, rfl, _⟩ := h
  rfl
abbrev t_Links_merge_2 (K : PySem.W.Frag) (W : WX) : TS := (tSeq (tAsg (tC (.str "full")) (gSub (tFld K (tVar 0) "sort_by") (tVar 1) uSet))
  (tAsg (tC .non) (gSub (tFld K (tVar 0) "base_by") (tVar 1) uSet)))
abbrev t_Links_merge_1 (K : PySem.W.Frag) (W : WX) : TS := (tSeq (tDrop (tMethW W (He.ga K "Links") "need_link" (sp_Links_need_link K) [] (tVar 0) (tCons (tVar 1) tNil)))
  (t_Links_merge_2 K W))
abbrev t_Links_merge (K : PySem.W.Frag) (W : WX) : TS := (t_Links_merge_1 K W)
theorem pure_Links_merge {K : PySem.W.Frag} (T : TxC K) (vs : List V) (H : Hp) (Q : VK) (E : XK) (h : sp_Links_merge K vs H Q E) : t_Links_merge K (WT E) { nx := fun _ H' => Q .non H', rt := Q } (L2.start ["self", "time"] vs) H := by
  obtain ⟨Rs, p_a_self, a_self, a_time, X, P, rfl, S0, hf, hX, hk⟩ := h
  show t_Links_merge K (WT E) _ [some (V.ref p_a_self), some (V.int a_time)] H
  refine g_seq (g_drop (g_meth (g_var rfl (v_R_Links S0 0 rfl (fun _ _ _ _ => rfl) (g_cons (g_var rfl (g_nil (⟨_, _, _, _, _, _, rfl, (M.at S0 0 rfl), hf, fun x5 d6 v7 H9 hf (S8 : M (pt d6 (.xd [(x5.fld, v7)]) :: da K v7 x5.val :: R_Links K p_a_self a_self :: Rs) H9) => ?_, fun _u1 H3 hf (S2 : M (R_Links K p_a_self a_self :: Rs) H3) => ?_⟩))))))))
  ·
    exact hX x5 _ d6 v7 _ hf (M.sub (.cons 0 rfl (.cons 0 rfl (.cons 0 rfl (.refl _)))) S8)
  refine g_nx ?_
  obtain ⟨dx13, p14, p16, p18, (S12 : M (pt p_a_self (.ins (He.ga K "Links") dx13 [("sort_by", (V.ref p14)), ("base_by", (V.ref p16)), ("whole_by", (V.ref p18))]) :: pt dx13 (.own p_a_self) :: adR K iI eS p14 a_self.1 :: adR K iI (eO eI) p16 a_self.2.1 :: adR K iI (eD iS (eL eI)) p18 a_self.2.2 :: Rs) H3)⟩ := R_Links_open (S2.at 0 rfl)
  refine g_seq (g_asgX (g_c (g_sub (g_fld (g_var rfl (v_fld (S12.got 0 rfl) T.cl_Links T.na_Links_sort_by rfl (g_var rfl ?_)))))))
  obtain ⟨h22, hf⟩ := hf
  refine v_putdI (e := eS) (x := ("full" : Str)) S12 2 rfl (EnF.all fun _ => .str _) h22 fun H24 (S23 : M (adR K iI eS p14 (pk a_self.1 a_time ("full" : Str)) :: pt p_a_self (.ins (He.ga K "Links") dx13 [("sort_by", (V.ref p14)), ("base_by", (V.ref p16)), ("whole_by", (V.ref p18))]) :: pt dx13 (.own p_a_self) :: adR K iI (eO eI) p16 a_self.2.1 :: adR K iI (eD iS (eL eI)) p18 a_self.2.2 :: Rs) H24) => ?_
  refine g_nx ?_
  refine g_asgX (g_c (g_sub (g_fld (g_var rfl (v_fld (S23.got 1 rfl) T.cl_Links T.na_Links_base_by rfl (g_var rfl ?_))))))
  have S26 : M (da K V.non ((eO eI) (none : (Option Int))) :: adR K iI eS p14 (pk a_self.1 a_time ("full" : Str)) :: pt p_a_self (.ins (He.ga K "Links") dx13 [("sort_by", (V.ref p14)), ("base_by", (V.ref p16)), ("whole_by", (V.ref p18))]) :: pt dx13 (.own p_a_self) :: adR K iI (eO eI) p16 a_self.2.1 :: adR K iI (eD iS (eL eI)) p18 a_self.2.2 :: Rs) H24 := M.addA S23 (EnF.all fun _ => .non)
  obtain ⟨h28, hf⟩ := hf
  refine v_putdI (e := (eO eI)) (x := (none : (Option Int))) S26 4 rfl (EnF.at 0 rfl) h28 fun H30 (S29 : M (adR K iI (eO eI) p16 (pk a_self.2.1 a_time (none : (Option Int))) :: da K V.non ((eO eI) (none : (Option Int))) :: adR K iI eS p14 (pk a_self.1 a_time ("full" : Str)) :: pt p_a_self (.ins (He.ga K "Links") dx13 [("sort_by", (V.ref p14)), ("base_by", (V.ref p16)), ("whole_by", (V.ref p18))]) :: pt dx13 (.own p_a_self) :: adR K iI (eD iS (eL eI)) p18 a_self.2.2 :: Rs) H30) => ?_
  have S32 : M (R_Links K p_a_self ((pk a_self.1 a_time ("full" : Str)), (pk a_self.2.1 a_time (none : (Option Int))), a_self.2.2) :: da K V.non ((eO eI) (none : (Option Int))) :: Rs) H30 := R_Links_close (M.sub (.cons 3 rfl (.cons 3 rfl (.cons 2 rfl (.cons 0 rfl (.cons 1 rfl (.refl _)))))) S29)
  exact hk _ _ hf (M.sub (.cons 0 rfl (.tl (.refl _))) S32)
def p_Links_forget (a_self : ((List (Int × Str)) × (List (Int × (Option Int))) × (List (Int × (List (Str × (List Int))))))) (a_time : Int) (X : Ex → ((List (Int × Str)) × (List (Int × (Option Int))) × (List (Int × (List (Str × (List Int)))))) → Prop) (P : ((List (Int × Str)) × (List (Int × (Option Int))) × (List (Int × (List (Str × (List Int)))))) → Prop) : Prop := p_Links_need_link a_self a_time (fun x5 => X x5 a_self) fun _u1 => ∃ x22, lk a_self.2.1 a_time = some x22 ∧ ∃ x29, lk a_self.1 a_time = some x29 ∧ ∃ x37, lk a_self.2.2 a_time = some x37 ∧ (ks (dk a_self.2.1 a_time)).length < 64 ∧ forD (fun (x55 : Int) (s52 : ((List (Int × Str)) × (List (Int × (Option Int))) × (List (Int × (List (Str × (List Int))))))) (k53 : (((List (Int × Str)) × (List (Int × (Option Int))) × (List (Int × (List (Str × (List Int))))))) → Prop) => ∃ x70, lk s52.2.1 x55 = some x70 ∧ if (decide (x70 = (some a_time))) = true then ((s52.2.1).length < 100000 ∧ if ((x22).isNone) = true then ((s52.1).length < 100000 ∧ k53 ((pk s52.1 x55 ("full" : Str)), (pk s52.2.1 x55 x22), s52.2.2)) else (k53 (s52.1, (pk s52.2.1 x55 x22), s52.2.2))) else (k53 (s52.1, s52.2.1, s52.2.2))) (srt (ks (dk a_self.2.1 a_time))) ((dk a_self.1 a_time), (dk a_self.2.1 a_time), (dk a_self.2.2 a_time)) fun s52 => P s52
def sp_Links_forget (K : PySem.W.Frag) : Sp := fun vs H Q E => ∃ (Rs : List Res) (p_a_self : Addr) (a_self : ((List (Int × Str)) × (List (Int × (Option Int))) × (List (Int × (List (Str × (List Int))))))) (a_time : Int) (X : Ex → ((List (Int × Str)) × (List (Int × (Option Int))) × (List (Int × (List (Str × (List Int)))))) → Prop) (P : ((List (Int × Str)) × (List (Int × (Option Int))) × (List (Int × (List (Str × (List Int)))))) → Prop), vs = [(V.ref p_a_self), (V.int a_time)] ∧ M (R_Links K p_a_self a_self :: Rs) H ∧ p_Links_forget a_self a_time X P ∧ (∀ (x : Ex) (m0 : ((List (Int × Str)) × (List (Int × (Option Int))) × (List (Int × (List (Str × (List Int))))))) (d : Addr) (v : V) H', X x m0 → M (pt d (.xd [(x.fld, v)]) :: da K v x.val :: R_Links K p_a_self m0 :: Rs) H' → E (.ref (He.ga K x.cls)) (some d) H') ∧ ∀ (m0 : ((List (Int × Str)) × (List (Int × (Option Int))) × (List (Int × (List (Str × (List Int))))))) H', P m0 → M (R_Links K p_a_self m0 :: Rs) H' → Q .non H'
theorem len_Links_forget {K : PySem.W.Frag} (vs : List V) (H : Hp) (Q : VK) (E : XK) (h : sp_Links_forget K vs H Q E) : vs.length = 2 := by
  obtain ⟨Rs, p_a_self, a_self, a_time, X, P, rfl, _⟩ := h
  rfl
abbrev t_Links_forget_8 (K : PySem.W.Frag) (W : WX) : TS := (tIfS (tTest (tOp rIsN (tVar 2) (tC .non))) (tAsg (tC (.str "full")) (gSub (tFld K (tVar 0) "sort_by") (tVar 3) uSet)) tNext)
abbrev t_Links_forget_7 (K : PySem.W.Frag) (W : WX) : TS := (tSeq (tAsg (tVar 2) (gSub (tFld K (tVar 0) "base_by") (tVar 3) uSet))
  (t_Links_forget_8 K W))
abbrev t_Links_forget_6 (K : PySem.W.Frag) (W : WX) : TS := (tIfS (tTest (tOp (uEq K) (tOp rIxK (tFld K (tVar 0) "base_by") (tVar 3)) (tVar 1))) (t_Links_forget_7 K W) tNext)
abbrev t_Links_forget_5 (K : PySem.W.Frag) (W : WX) : TS := (tFor (iList K (tCB rSortDI (tCons (tFld K (tVar 0) "base_by") tNil))) (gName 3) (t_Links_forget_6 K W))
abbrev t_Links_forget_4 (K : PySem.W.Frag) (W : WX) : TS := (tSeq (tDrop (tDPop1 (tFld K (tVar 0) "whole_by") (tVar 1)))
  (t_Links_forget_5 K W))
abbrev t_Links_forget_3 (K : PySem.W.Frag) (W : WX) : TS := (tSeq (tDrop (tDPop1 (tFld K (tVar 0) "sort_by") (tVar 1)))
  (t_Links_forget_4 K W))
abbrev t_Links_forget_2 (K : PySem.W.Frag) (W : WX) : TS := (tSeq (tAsg (tDPop1 (tFld K (tVar 0) "base_by") (tVar 1)) (gName 2))
  (t_Links_forget_3 K W))
abbrev t_Links_forget_1 (K : PySem.W.Frag) (W : WX) : TS := (tSeq (tDrop (tMethW W (He.ga K "Links") "need_link" (sp_Links_need_link K) [] (tVar 0) (tCons (tVar 1) tNil)))
  (t_Links_forget_2 K W))
abbrev t_Links_forget (K : PySem.W.Frag) (W : WX) : TS := (t_Links_forget_1 K W)
theorem pure_Links_forget {K : PySem.W.Frag} (T : TxC K) (vs : List V) (H : Hp) (Q : VK) (E : XK) (h : sp_Links_forget K vs H Q E) : t_Links_forget K (WT E) { nx := fun _ H' => Q .non H', rt := Q } (L2.start ["self", "time", "base", "heir"] vs) H := by
  obtain ⟨Rs, p_a_self, a_self, a_time, X, P, rfl, S0, hf, hX, hk⟩ := h
  show t_Links_forget K (WT E) _ [some (V.ref p_a_self), some (V.int a_time), none, none] H
  refine g_seq (g_drop (g_meth (g_var rfl (v_R_Links S0 0 rfl (fun _ _ _ _ => rfl) (g_cons (g_var rfl (g_nil (⟨_, _, _, _, _, _, rfl, (M.at S0 0 rfl), hf, fun x5 d6 v7 H9 hf (S8 : M (pt d6 (.xd [(x5.fld, v7)]) :: da K v7 x5.val :: R_Links K p_a_self a_self :: Rs) H9) => ?_, fun _u1 H3 hf (S2 : M (R_Links K p_a_self a_self :: Rs) H3) => ?_⟩))))))))
  ·
    exact hX x5 _ d6 v7 _ hf (M.sub (.cons 0 rfl (.cons 0 rfl (.cons 0 rfl (.refl _)))) S8)
  refine g_nx ?_
  obtain ⟨dx13, p14, p16, p18, (S12 : M (pt p_a_self (.ins (He.ga K "Links") dx13 [("sort_by", (V.ref p14)), ("base_by", (V.ref p16)), ("whole_by", (V.ref p18))]) :: pt dx13 (.own p_a_self) :: adR K iI eS p14 a_self.1 :: adR K iI (eO eI) p16 a_self.2.1 :: adR K iI (eD iS (eL eI)) p18 a_self.2.2 :: Rs) H3)⟩ := R_Links_open (S2.at 0 rfl)
  refine g_seq (g_asg (g_dpop (g_fld (g_var rfl (v_fld (S12.got 0 rfl) T.cl_Links T.na_Links_base_by rfl (v_dpopA S12 3 rfl (g_var rfl ?_)))))))
  obtain ⟨x22, h23, hf⟩ := hf
  refine v_popAI S12 3 rfl h23 fun u24 H26 (S25 : M (da K u24 ((eO eI) x22) :: adR K iI (eO eI) p16 (dk a_self.2.1 a_time) :: pt p_a_self (.ins (He.ga K "Links") dx13 [("sort_by", (V.ref p14)), ("base_by", (V.ref p16)), ("whole_by", (V.ref p18))]) :: pt dx13 (.own p_a_self) :: adR K iI eS p14 a_self.1 :: adR K iI (eD iS (eL eI)) p18 a_self.2.2 :: Rs) H26) => ?_
  refine g_nx ?_
  refine g_seq (g_drop (g_dpop (g_fld (g_var rfl (v_fld (S25.got 2 rfl) T.cl_Links T.na_Links_sort_by rfl (v_dpopA S25 4 rfl (g_var rfl ?_)))))))
  obtain ⟨x29, h30, hf⟩ := hf
  refine v_popAI S25 4 rfl h30 fun u31 H33 (S32 : M (da K u31 (eS x29) :: adR K iI eS p14 (dk a_self.1 a_time) :: da K u24 ((eO eI) x22) :: adR K iI (eO eI) p16 (dk a_self.2.1 a_time) :: pt p_a_self (.ins (He.ga K "Links") dx13 [("sort_by", (V.ref p14)), ("base_by", (V.ref p16)), ("whole_by", (V.ref p18))]) :: pt dx13 (.own p_a_self) :: adR K iI (eD iS (eL eI)) p18 a_self.2.2 :: Rs) H33) => ?_
  obtain rfl := (S32.gotA 0 rfl).strV
  have S36 := S32.tl
  refine g_nx ?_
  refine g_seq (g_drop (g_dpop (g_fld (g_var rfl (v_fld (S36.got 3 rfl) T.cl_Links T.na_Links_whole_by rfl (v_dpopA S36 5 rfl (g_var rfl ?_)))))))
  obtain ⟨x37, h38, hf⟩ := hf
  refine v_popAI S36 5 rfl h38 fun u39 H41 (S40 : M (da K u39 ((eD iS (eL eI)) x37) :: adR K iI (eD iS (eL eI)) p18 (dk a_self.2.2 a_time) :: adR K iI eS p14 (dk a_self.1 a_time) :: da K u24 ((eO eI) x22) :: adR K iI (eO eI) p16 (dk a_self.2.1 a_time) :: pt p_a_self (.ins (He.ga K "Links") dx13 [("sort_by", (V.ref p14)), ("base_by", (V.ref p16)), ("whole_by", (V.ref p18))]) :: pt dx13 (.own p_a_self) :: Rs) H41) => ?_
  refine g_nx ?_
  have S44 : M (adR K iI (eD iS (eL eI)) p18 (dk a_self.2.2 a_time) :: adR K iI eS p14 (dk a_self.1 a_time) :: da K u24 ((eO eI) x22) :: adR K iI (eO eI) p16 (dk a_self.2.1 a_time) :: pt p_a_self (.ins (He.ga K "Links") dx13 [("sort_by", (V.ref p14)), ("base_by", (V.ref p16)), ("whole_by", (V.ref p18))]) :: pt dx13 (.own p_a_self) :: Rs) H41 := (M.drp S40 0)
  refine g_for (g_iList (g_cb (g_cons (g_fld (g_var rfl (v_fld (S44.got 4 rfl) T.cl_Links T.na_Links_base_by rfl (g_nil ?_)))))))
  obtain ⟨h45, hf⟩ := hf
  refine d_srtI (M.dvO S44 3 rfl) h45 fun p46 H48 (S47 : M (acR K p46 ((srt (ks (dk a_self.2.1 a_time))).map eI) :: adR K iI (eD iS (eL eI)) p18 (dk a_self.2.2 a_time) :: adR K iI eS p14 (dk a_self.1 a_time) :: da K u24 ((eO eI) x22) :: adR K iI (eO eI) p16 (dk a_self.2.1 a_time) :: pt p_a_self (.ins (He.ga K "Links") dx13 [("sort_by", (V.ref p14)), ("base_by", (V.ref p16)), ("whole_by", (V.ref p18))]) :: pt dx13 (.own p_a_self) :: Rs) H48) => ?_
  have S50 : M (R_Links K p_a_self ((dk a_self.1 a_time), (dk a_self.2.1 a_time), (dk a_self.2.2 a_time)) :: acR K p46 ((srt (ks (dk a_self.2.1 a_time))).map eI) :: da K u24 ((eO eI) x22) :: Rs) H48 := R_Links_close (M.sub (.cons 5 rfl (.cons 5 rfl (.cons 2 rfl (.cons 3 rfl (.cons 1 rfl (.refl _)))))) S47)
  refine for_N flI (K := K) (β := ((List (Int × Str)) × (List (Int × (Option Int))) × (List (Int × (List (Str × (List Int))))))) hf (fun (s52 : ((List (Int × Str)) × (List (Int × (Option Int))) × (List (Int × (List (Str × (List Int))))))) σ H' => ∃ (o57 : Option V), σ = [some (V.ref p_a_self), some (V.int a_time), some u24, o57] ∧ M (R_Links K p_a_self s52 :: acR K p46 ((srt (ks (dk a_self.2.1 a_time))).map eI) :: da K u24 ((eO eI) x22) :: Rs) H') ⟨_, rfl, (M.sub (.cons 0 rfl (.cons 0 rfl (.cons 0 rfl (.refl _)))) S50)⟩ (fun _ _ _ h => by obtain ⟨_, _, S⟩ := h; exact S.gotO 1 rfl) ?_ ?_
  ·
    rintro x55 s52 _ H59 kk54 ⟨o57, rfl, S58⟩ hf
    obtain ⟨dx61, p62, p64, p66, (S60 : M (pt p_a_self (.ins (He.ga K "Links") dx61 [("sort_by", (V.ref p62)), ("base_by", (V.ref p64)), ("whole_by", (V.ref p66))]) :: pt dx61 (.own p_a_self) :: adR K iI eS p62 s52.1 :: adR K iI (eO eI) p64 s52.2.1 :: adR K iI (eD iS (eL eI)) p66 s52.2.2 :: acR K p46 ((srt (ks (dk a_self.2.1 a_time))).map eI) :: da K u24 ((eO eI) x22) :: Rs) H59)⟩ := R_Links_open (S58.at 0 rfl)
    refine g_name (g_if (g_test (g_op (g_op (g_fld (g_var rfl (v_fld (S60.got 0 rfl) T.cl_Links T.na_Links_base_by rfl (g_var rfl ?_))))))))
    obtain ⟨x70, h71, hf⟩ := hf
    refine d_ixI (M.dvO S60 3 rfl) h71 fun u72 S73 => ?_
    refine g_var rfl (v_eqO (x := x70) (y := (some a_time)) (M.gotA S73 0 rfl) (.int _) (g_bl (v_iff hf (fun _ hf => ?_) (fun _ hf => ?_))))
    ·
      refine g_seq (g_asgX (g_var rfl (g_sub (g_fld (g_var rfl (v_fld (S73.got 1 rfl) T.cl_Links T.na_Links_base_by rfl (g_var rfl ?_)))))))
      obtain ⟨h75, hf⟩ := hf
      refine v_putdI (e := (eO eI)) (x := x22) S73 4 rfl (EnF.at 7 rfl) h75 fun H77 (S76 : M (adR K iI (eO eI) p64 (pk s52.2.1 x55 x22) :: da K u72 ((eO eI) x70) :: pt p_a_self (.ins (He.ga K "Links") dx61 [("sort_by", (V.ref p62)), ("base_by", (V.ref p64)), ("whole_by", (V.ref p66))]) :: pt dx61 (.own p_a_self) :: adR K iI eS p62 s52.1 :: adR K iI (eD iS (eL eI)) p66 s52.2.2 :: acR K p46 ((srt (ks (dk a_self.2.1 a_time))).map eI) :: da K u24 ((eO eI) x22) :: Rs) H77) => ?_
      refine g_nx ?_
      have S79 : M (adR K iI (eO eI) p64 (pk s52.2.1 x55 x22) :: pt p_a_self (.ins (He.ga K "Links") dx61 [("sort_by", (V.ref p62)), ("base_by", (V.ref p64)), ("whole_by", (V.ref p66))]) :: pt dx61 (.own p_a_self) :: adR K iI eS p62 s52.1 :: adR K iI (eD iS (eL eI)) p66 s52.2.2 :: acR K p46 ((srt (ks (dk a_self.2.1 a_time))).map eI) :: da K u24 ((eO eI) x22) :: Rs) H77 := (M.drp S76 1)
      refine g_if (g_test (g_op (g_var rfl (g_c (v_isO (M.gotA S79 6 rfl) (g_bl (v_iff hf (fun _ hf => ?_) (fun _ hf => ?_))))))))
      ·
        refine g_asgX (g_c (g_sub (g_fld (g_var rfl (v_fld (S79.got 1 rfl) T.cl_Links T.na_Links_sort_by rfl (g_var rfl ?_))))))
        obtain ⟨h80, hf⟩ := hf
        refine v_putdI (e := eS) (x := ("full" : Str)) S79 3 rfl (EnF.all fun _ => .str _) h80 fun H82 (S81 : M (adR K iI eS p62 (pk s52.1 x55 ("full" : Str)) :: adR K iI (eO eI) p64 (pk s52.2.1 x55 x22) :: pt p_a_self (.ins (He.ga K "Links") dx61 [("sort_by", (V.ref p62)), ("base_by", (V.ref p64)), ("whole_by", (V.ref p66))]) :: pt dx61 (.own p_a_self) :: adR K iI (eD iS (eL eI)) p66 s52.2.2 :: acR K p46 ((srt (ks (dk a_self.2.1 a_time))).map eI) :: da K u24 ((eO eI) x22) :: Rs) H82) => ?_
        have S84 : M (R_Links K p_a_self ((pk s52.1 x55 ("full" : Str)), (pk s52.2.1 x55 x22), s52.2.2) :: acR K p46 ((srt (ks (dk a_self.2.1 a_time))).map eI) :: da K u24 ((eO eI) x22) :: Rs) H82 := R_Links_close (M.sub (.cons 2 rfl (.cons 2 rfl (.cons 0 rfl (.cons 0 rfl (.cons 0 rfl (.refl _)))))) S81)
        exact ⟨_, hf, _, rfl, (M.sub (.cons 0 rfl (.cons 0 rfl (.cons 0 rfl (.refl _)))) S84)⟩
      ·
        refine g_next ?_
        have S86 : M (R_Links K p_a_self (s52.1, (pk s52.2.1 x55 x22), s52.2.2) :: acR K p46 ((srt (ks (dk a_self.2.1 a_time))).map eI) :: da K u24 ((eO eI) x22) :: Rs) H77 := R_Links_close (M.sub (.cons 1 rfl (.cons 1 rfl (.cons 1 rfl (.cons 0 rfl (.cons 0 rfl (.refl _)))))) S79)
        exact ⟨_, hf, _, rfl, (M.sub (.cons 0 rfl (.cons 0 rfl (.cons 0 rfl (.refl _)))) S86)⟩
    ·
      refine g_next ?_
      have S88 : M (R_Links K p_a_self (s52.1, s52.2.1, s52.2.2) :: da K u72 ((eO eI) x70) :: acR K p46 ((srt (ks (dk a_self.2.1 a_time))).map eI) :: da K u24 ((eO eI) x22) :: Rs) H59 := R_Links_close (M.sub (.cons 1 rfl (.cons 1 rfl (.cons 1 rfl (.cons 1 rfl (.cons 1 rfl (.refl _)))))) S73)
      exact ⟨_, hf, _, rfl, (M.sub (.cons 0 rfl (.cons 1 rfl (.cons 1 rfl (.tl (.refl _))))) S88)⟩
  rintro s52 _ H91 hf ⟨o57, rfl, S90⟩
  exact hk _ _ hf (M.sub (.cons 0 rfl (.tl (.tl (.refl _)))) S90)
def p_l_seen (a_here : ((List (Int × Str)) × (List (Int × (Option Int))) × (List (Int × (List (Str × (List Int))))))) (a_but : (Option Int)) (X : Ex → Prop) (P : (List (Int × Str × (Option Int) × (List (Str × (List Int))))) → Prop) : Prop := p_Links_times a_here fun x1 => (x1).length ≤ 100000 ∧ lcD (fun (x9 : Int) (k16 : Option (Int × Str × (Option Int) × (List (Str × (List Int)))) → Prop) => if (!decide ((some x9) = a_but)) = true then (p_Links_kind a_here x9 (fun x21 => False) fun x17 => p_Links_base a_here x9 (fun x33 => False) fun x28 => p_Links_state a_here x9 (fun x45 => False) fun x40 => k16 (some (x9, x17, x28, x40))) else (k16 none)) x1 [] fun acc6 => P acc6
def sp_l_seen (K : PySem.W.Frag) : Sp := fun vs H Q E => ∃ (Rs : List Res) (p_a_here : Addr) (a_here : ((List (Int × Str)) × (List (Int × (Option Int))) × (List (Int × (List (Str × (List Int))))))) (v_a_but : V) (a_but : (Option Int)) (X : Ex → Prop) (P : (List (Int × Str × (Option Int) × (List (Str × (List Int))))) → Prop), vs = [(V.ref p_a_here), v_a_but] ∧ M (R_Links K p_a_here a_here :: da K v_a_but ((eO eI) a_but) :: Rs) H ∧ p_l_seen a_here a_but X P ∧ (∀ (x : Ex) (d : Addr) (v : V) H', X x → M (pt d (.xd [(x.fld, v)]) :: da K v x.val :: R_Links K p_a_here a_here :: Rs) H' → E (.ref (He.ga K x.cls)) (some d) H') ∧ ∀ (r : (List (Int × Str × (Option Int) × (List (Str × (List Int)))))) (v : V) H', P r → M (da K v ((eL (eT4 eI eS (eO eI) (eD iS (eL eI)))) r) :: R_Links K p_a_here a_here :: Rs) H' → Q v H'
theorem len_l_seen {K : PySem.W.Frag} (vs : List V) (H : Hp) (Q : VK) (E : XK) (h : sp_l_seen K vs H Q E) : vs.length = 2 := by
  obtain ⟨Rs, p_a_here, a_here, v_a_but, a_but, X, P, rfl, _⟩ := h
  rfl
abbrev t_l_seen (K : PySem.W.Frag) (W : WX) : TS := (tRet (tLc (iList K (tMethW W0 (He.ga K "Links") "times" (sp_Links_times K) [] (tVar 0) tNil)) (gName 2) (tTest (tOp (uNe K) (tVar 2) (tVar 1))) (tTup (tCons (tVar 2) (tCons (tMethW W0 (He.ga K "Links") "kind" (sp_Links_kind K) [] (tVar 0) (tCons (tVar 2) tNil)) (tCons (tMethW W0 (He.ga K "Links") "base" (sp_Links_base K) [] (tVar 0) (tCons (tVar 2) tNil)) (tCons (tMethW W0 (He.ga K "Links") "state" (sp_Links_state K) [] (tVar 0) (tCons (tVar 2) tNil)) tNil))))) [2]))
theorem pure_l_seen {K : PySem.W.Frag} (T : TxC K) (vs : List V) (H : Hp) (Q : VK) (E : XK) (h : sp_l_seen K vs H Q E) : t_l_seen K (WT E) { nx := fun _ H' => Q .non H', rt := Q } (L2.start ["_law_here", "_law_but", "_law_one"] vs) H := by
  obtain ⟨Rs, p_a_here, a_here, v_a_but, a_but, X, P, rfl, S0, hf, hX, hk⟩ := h
  show t_l_seen K (WT E) _ [some (V.ref p_a_here), some v_a_but, none] H
  refine g_ret (g_lc (g_iList (g_meth (g_var rfl (v_R_Links S0 0 rfl (fun _ _ _ _ => rfl) (g_nil (⟨_, _, _, _, rfl, (M.at S0 0 rfl), hf, fun x1 u4 H3 hf (S2 : M (acR K u4 (x1.map eI) :: R_Links K p_a_here a_here :: da K v_a_but ((eO eI) a_but) :: Rs) H3) => ?_⟩)))))))
  refine lc_N flI (K := K) (e' := (eT4 eI eS (eO eI) (eD iS (eL eI)))) hf S2 (fun _ S => S.gotO 0 rfl) (fun x9 acc6 E7 H15 kk8 N10 hl11 S14 hf hp12 hn13 => ?_) (fun E7 acc6 H59 hf S58 => ?_)
  ·
    refine g_name (g_wipe rfl (g_test (g_op (g_var rfl (g_var rfl (v_neO (x := (some x9)) (y := a_but) (.int _) (M.gotA S14 3 rfl) (g_bl (v_iff hf (fun _ hf => ?_) (fun _ hf => ?_)))))))))
    ·
      refine g_tup (g_cons (g_var rfl (g_cons (g_meth (g_var rfl (v_R_Links S14 2 rfl (fun _ _ _ _ => rfl) (g_cons (g_var rfl (g_nil (⟨_, _, _, _, _, _, rfl, (M.at S14 2 rfl), hf, fun x21 d22 v23 H25 hf (S24 : M (pt d22 (.xd [(x21.fld, v23)]) :: da K v23 x21.val :: R_Links K p_a_here a_here :: acR K E7 (acc6.map (eT4 eI eS (eO eI) (eD iS (eL eI)))) :: acR K u4 (x1.map eI) :: da K v_a_but ((eO eI) a_but) :: Rs) H25) => ?_, fun x17 H19 hf (S18 : M (R_Links K p_a_here a_here :: acR K E7 (acc6.map (eT4 eI eS (eO eI) (eD iS (eL eI)))) :: acR K u4 (x1.map eI) :: da K v_a_but ((eO eI) a_but) :: Rs) H19) => ?_⟩))))))))))
      ·
        exact hf.elim
      refine g_cons (g_meth (g_var rfl (v_R_Links S18 0 rfl (fun _ _ _ _ => rfl) (g_cons (g_var rfl (g_nil (⟨_, _, _, _, _, _, rfl, (M.at S18 0 rfl), hf, fun x33 d34 v35 H37 hf (S36 : M (pt d34 (.xd [(x33.fld, v35)]) :: da K v35 x33.val :: R_Links K p_a_here a_here :: acR K E7 (acc6.map (eT4 eI eS (eO eI) (eD iS (eL eI)))) :: acR K u4 (x1.map eI) :: da K v_a_but ((eO eI) a_but) :: Rs) H37) => ?_, fun x28 u31 H30 hf (S29 : M (da K u31 ((eO eI) x28) :: R_Links K p_a_here a_here :: acR K E7 (acc6.map (eT4 eI eS (eO eI) (eD iS (eL eI)))) :: acR K u4 (x1.map eI) :: da K v_a_but ((eO eI) a_but) :: Rs) H30) => ?_⟩)))))))
      ·
        exact hf.elim
      refine g_cons (g_meth (g_var rfl (v_R_Links S29 1 rfl (fun _ _ _ _ => rfl) (g_cons (g_var rfl (g_nil (⟨_, _, _, _, _, _, rfl, (M.at S29 1 rfl), hf, fun x45 d46 v47 H49 hf (S48 : M (pt d46 (.xd [(x45.fld, v47)]) :: da K v47 x45.val :: R_Links K p_a_here a_here :: da K u31 ((eO eI) x28) :: acR K E7 (acc6.map (eT4 eI eS (eO eI) (eD iS (eL eI)))) :: acR K u4 (x1.map eI) :: da K v_a_but ((eO eI) a_but) :: Rs) H49) => ?_, fun x40 u43 H42 hf (S41 : M (da K u43 ((eD iS (eL eI)) x40) :: R_Links K p_a_here a_here :: da K u31 ((eO eI) x28) :: acR K E7 (acc6.map (eT4 eI eS (eO eI) (eD iS (eL eI)))) :: acR K u4 (x1.map eI) :: da K v_a_but ((eO eI) a_but) :: Rs) H42) => ?_⟩)))))))
      ·
        exact hf.elim
      refine g_nil (v_tupq S41 (EnF.consA (EnF.all fun _ => .int _) (EnF.consA (EnF.all fun _ => .str _) (EnF.consA (EnF.at 2 rfl) (EnF.consA (EnF.at 0 rfl) EnF.nilA)))) (len_ok rfl) fun p52 H54 (S53 : M (da K (V.ref p52) ((eT4 eI eS (eO eI) (eD iS (eL eI))) (x9, x17, x28, x40)) :: da K u43 ((eD iS (eL eI)) x40) :: R_Links K p_a_here a_here :: da K u31 ((eO eI) x28) :: acR K E7 (acc6.map (eT4 eI eS (eO eI) (eD iS (eL eI)))) :: acR K u4 (x1.map eI) :: da K v_a_but ((eO eI) a_but) :: Rs) H54) => ?_)
      refine acR_put S53 4 rfl (EnF.at 0 rfl) hl11 fun H57 (S56 : M (acR K E7 (acc6.map (eT4 eI eS (eO eI) (eD iS (eL eI))) ++ [(eT4 eI eS (eO eI) (eD iS (eL eI))) (x9, x17, x28, x40)]) :: da K (V.ref p52) ((eT4 eI eS (eO eI) (eD iS (eL eI))) (x9, x17, x28, x40)) :: da K u43 ((eD iS (eL eI)) x40) :: R_Links K p_a_here a_here :: da K u31 ((eO eI) x28) :: acR K u4 (x1.map eI) :: da K v_a_but ((eO eI) a_but) :: Rs) H57) => ?_
      exact hp12 _ _ hf (M.sub (.cons 0 rfl (.cons 4 rfl (.cons 2 rfl (.cons 3 rfl (.tl (.tl (.tl (.refl _)))))))) S56)
    ·
      exact hn13 _ hf (M.sub (.cons 0 rfl (.cons 0 rfl (.cons 0 rfl (.cons 0 rfl (.refl _))))) S14)
  have S61 : M (da K (V.ref E7) ((eL (eT4 eI eS (eO eI) (eD iS (eL eI)))) acc6) :: acR K u4 (x1.map eI) :: R_Links K p_a_here a_here :: da K v_a_but ((eO eI) a_but) :: Rs) H59 := acR_fixL S58
  exact hk _ _ _ hf (M.sub (.cons 0 rfl (.cons 1 rfl (.tl (.tl (.refl _))))) S61)
def p_l_class (x : Ex) (P : PyData → Prop) : Prop := match x with
  | .Wrong w => ([false, false, false, false]).length + ([true]).length ≤ 100000 ∧ P ((eP eS eA) (("Wrong" : Str), w))
  | .NoMoment w => ([false, false, false, true]).length + ([false]).length ≤ 100000 ∧ ∃ x51, atI ([("NoBase" : Str), ("NoMoment" : Str)]) (if true = true then (1 : Int) else 0) = some x51 ∧ P ((eP eS eA) (x51, w))
  | .There w => ([true, false, false, false]).length + ([false]).length ≤ 100000 ∧ P ((eP eS eA) (("There" : Str), w))
  | .TooMany w => ([false, true, false, false]).length + ([false]).length ≤ 100000 ∧ P ((eP eS eA) (("TooMany" : Str), w))
  | .NoBase w => ([false, false, true, false]).length + ([false]).length ≤ 100000 ∧ ∃ x131, atI ([("NoBase" : Str), ("NoMoment" : Str)]) (if false = true then (1 : Int) else 0) = some x131 ∧ P ((eP eS eA) (x131, w))
def sp_l_class (K : PySem.W.Frag) (a : Addr) (cls : Value) (d : Option Addr) (H : Hp) (Q : VK) : Prop := ∃ (Rs : List Res) (dd : Addr) (v : V) (x : Ex) (P : PyData → Prop), cls = .ref (He.ga K x.cls) ∧ d = some dd ∧ M (pt dd (.xd [(x.fld, v)]) :: da K v x.val :: Rs) H ∧ p_l_class x P ∧ ∀ (r : PyData) (u : V) H', P r → M (da K u (eA r) :: pt dd (.xd [(x.fld, v)]) :: da K v x.val :: Rs) H' → Q u H'
abbrev t_l_class_9 (K : PySem.W.Frag) (a : Addr) (cls : Value) (d : Option Addr) : TS := (tSeq (tIfS (tB (tOp (uIx K) (tVar 1) (tC (.int 4)))) (tRet (tTup (tCons (tC (.str "Wrong")) (tCons (tXg K a cls d "at" (tVar 0)) tNil)))) tNext)
  (tRet (tTup (tCons (tOp (uIx K) (tLst (tCons (tC (.str "NoBase")) (tCons (tC (.str "NoMoment")) tNil))) (tCB rIntB (tCons (tOp (uIx K) (tVar 1) (tC (.int 3))) tNil))) (tCons (tXg K a cls d "time" (tVar 0)) tNil)))))
abbrev t_l_class_7 (K : PySem.W.Frag) (a : Addr) (cls : Value) (d : Option Addr) : TS := (tSeq (tIfS (tB (tOp (uIx K) (tVar 1) (tC (.int 1)))) (tRet (tTup (tCons (tC (.str "TooMany")) (tCons (tXg K a cls d "most" (tVar 0)) tNil)))) tNext)
  (t_l_class_9 K a cls d))
abbrev t_l_class_5 (K : PySem.W.Frag) (a : Addr) (cls : Value) (d : Option Addr) : TS := (tSeq (tIfS (tB (tOp (uIx K) (tVar 1) (tC (.int 0)))) (tRet (tTup (tCons (tC (.str "There")) (tCons (tXg K a cls d "thing" (tVar 0)) tNil)))) tNext)
  (t_l_class_7 K a cls d))
abbrev t_l_class_3 (K : PySem.W.Frag) (a : Addr) (cls : Value) (d : Option Addr) : TS := (tSeq (tIfS (tOr (tTest (tOp (uNe K) (tBM K "list" (rCntV K) (tVar 1) (tCons (tC (.bl true)) tNil)) (tC (.int 1)))) (tTest (tOp (uNe K) (tCB (uIsX K a cls d) (tCons (tVar 0) (tCons (tC (.ty "LookupError")) tNil))) (tOp (uIx K) (tVar 1) (tC (.int 3)))))) (tRet (tTup (tCons (tC (.str "other")) tNil))) tNext)
  (t_l_class_5 K a cls d))
abbrev t_l_class_2 (K : PySem.W.Frag) (a : Addr) (cls : Value) (d : Option Addr) : TS := (tSeq (tAsg (tOp (uAdd K) (tVar 1) (tLst (tCons (tCB (uIsX K a cls d) (tCons (tVar 0) (tCons (tC (.ref (He.ga K "Wrong"))) tNil))) tNil))) (gName 1))
  (t_l_class_3 K a cls d))
abbrev t_l_class_1 (K : PySem.W.Frag) (a : Addr) (cls : Value) (d : Option Addr) : TS := (tSeq (tAsg (tLst (tCons (tCB (uIsX K a cls d) (tCons (tVar 0) (tCons (tC (.ref (He.ga K "There"))) tNil))) (tCons (tCB (uIsX K a cls d) (tCons (tVar 0) (tCons (tC (.ref (He.ga K "TooMany"))) tNil))) (tCons (tCB (uIsX K a cls d) (tCons (tVar 0) (tCons (tC (.ref (He.ga K "NoBase"))) tNil))) (tCons (tCB (uIsX K a cls d) (tCons (tVar 0) (tCons (tC (.ref (He.ga K "NoMoment"))) tNil))) tNil))))) (gName 1))
  (t_l_class_2 K a cls d))
abbrev t_l_class (K : PySem.W.Frag) (a : Addr) (cls : Value) (d : Option Addr) : TS := (t_l_class_1 K a cls d)
theorem pure_l_class {K : PySem.W.Frag} (T : TxC K) (a : Addr) (cls : Value) (d : Option Addr) (H : Hp) (Q : VK) (h : sp_l_class K a cls d H Q) : t_l_class K a cls d { nx := fun _ H' => Q .non H', rt := Q } (L2.start ["_law_e", "_law_kinds"] [.ref a]) H := by
  obtain ⟨Rs, dd, v, x, P, rfl, rfl, S0, hf, hk⟩ := h
  show t_l_class K a _ _ _ [some (V.ref a), none] H
  cases x with
  | Wrong w =>
    refine g_seq (g_asg (g_lst (g_cons (g_cb (g_cons (g_var rfl (g_cons (g_c (g_nil (v_isX T.xc_Wrong (S0.got 0 rfl) T.xk_Wrong_There (g_cons (g_cb (g_cons (g_var rfl (g_cons (g_c (g_nil (v_isX T.xc_Wrong (S0.got 0 rfl) T.xk_Wrong_TooMany (g_cons (g_cb (g_cons (g_var rfl (g_cons (g_c (g_nil (v_isX T.xc_Wrong (S0.got 0 rfl) T.xk_Wrong_NoBase (g_cons (g_cb (g_cons (g_var rfl (g_cons (g_c (g_nil (v_isX T.xc_Wrong (S0.got 0 rfl) T.xk_Wrong_NoMoment (g_nil (v_lsto (ds := ([false, false, false, false]).map eB) S0 (EnF.consA (EnF.all fun _ => .bl _) (EnF.consA (EnF.all fun _ => .bl _) (EnF.consA (EnF.all fun _ => .bl _) (EnF.consA (EnF.all fun _ => .bl _) EnF.nilA)))) (len_ok rfl) fun p1 H3 (S2 : M (acR K p1 (([false, false, false, false]).map eB) :: pt dd (.xd [("at", v)]) :: da K v w :: Rs) H3) => ?_))))))))))))))))))))))))))))))))))))
    have S5 : M (da K (V.ref p1) ((eL eB) ([false, false, false, false])) :: pt dd (.xd [("at", v)]) :: da K v w :: Rs) H3 := acR_fixL S2
    refine g_nx ?_
    refine g_seq (g_asg (g_op (g_var rfl (g_lst (g_cons (g_cb (g_cons (g_var rfl (g_cons (g_c (g_nil (v_isX T.xc_Wrong (S5.got 1 rfl) T.xk_Wrong_Wrong (g_nil (v_lsto (ds := ([true]).map eB) S5 (EnF.consA (EnF.all fun _ => .bl _) EnF.nilA) (len_ok rfl) fun p7 H9 (S8 : M (acR K p7 (([true]).map eB) :: da K (V.ref p1) ((eL eB) ([false, false, false, false])) :: pt dd (.xd [("at", v)]) :: da K v w :: Rs) H9) => ?_))))))))))))))
    have S11 : M (da K (V.ref p7) ((eL eB) ([true])) :: da K (V.ref p1) ((eL eB) ([false, false, false, false])) :: pt dd (.xd [("at", v)]) :: da K v w :: Rs) H9 := acR_fixL S8
    obtain ⟨h13, hf⟩ := hf
    refine v_catN flB S11 (M.gotA S11 1 rfl) (M.gotA S11 0 rfl) h13 fun p14 H16 (S15 : M (acR K p14 ((cat ([false, false, false, false]) ([true])).map eB) :: da K (V.ref p7) ((eL eB) ([true])) :: da K (V.ref p1) ((eL eB) ([false, false, false, false])) :: pt dd (.xd [("at", v)]) :: da K v w :: Rs) H16) => ?_
    have S18 : M (da K (V.ref p14) ((eL eB) (cat ([false, false, false, false]) ([true]))) :: da K (V.ref p7) ((eL eB) ([true])) :: da K (V.ref p1) ((eL eB) ([false, false, false, false])) :: pt dd (.xd [("at", v)]) :: da K v w :: Rs) H16 := acR_fixL S15
    refine g_nx ?_
    have S20 : M (da K (V.ref p14) ((eL eB) (cat ([false, false, false, false]) ([true]))) :: pt dd (.xd [("at", v)]) :: da K v w :: Rs) H16 := (M.drp (M.drp S18 2) 1)
    refine g_seq (g_if (g_orP (c1 := (!decide (1 = 1))) (c2 := (!decide (false = false))) (fun _ hq => ?_) (fun _ hq => ?_) ?_))
    ·
      refine g_test (g_op (g_bm (g_var rfl (M.tyA S20 0 rfl (g_cons (g_c (g_nil (v_cntBc (n := 1) (M.gotA S20 0 rfl) (by decide) (g_c (v_neI (g_bl ?_)))))))))))
      exact hq
    ·
      refine g_test (g_op (g_cb (g_cons (g_var rfl (g_cons (g_c (g_nil (v_isXT T.xc_Wrong (S20.got 1 rfl) T.xk_Wrong_LookupError (g_op (g_var rfl (g_c (v_ixN flB (M.gotA S20 0 rfl) (x := false) rfl (v_neB (g_bl ?_))))))))))))))
      exact hq
    refine v_ifcF (by decide) (g_next (g_nx (g_seq (g_if (g_B (g_op (g_var rfl (g_c (v_ixN flB (M.gotA S20 0 rfl) (x := false) rfl (g_bl (v_ifF (g_next (g_nx (g_seq (g_if (g_B (g_op (g_var rfl (g_c (v_ixN flB (M.gotA S20 0 rfl) (x := false) rfl (g_bl (v_ifF (g_next (g_nx (g_seq (g_if (g_B (g_op (g_var rfl (g_c (v_ixN flB (M.gotA S20 0 rfl) (x := true) rfl (g_bl (v_ifT (g_ret (g_tup (g_cons (g_c (g_cons (g_xgv rfl T.xc_Wrong (chN_ok T.xn_Wrong_at) (S20.got 1 rfl) rfl (g_nil (v_tupq S20 (EnF.consA (EnF.all fun _ => .str _) (EnF.consA (EnF.at 2 rfl) EnF.nilA)) (len_ok rfl) fun p21 H23 (S22 : M (da K (V.ref p21) ((eP eS eA) (("Wrong" : Str), w)) :: da K (V.ref p14) ((eL eB) (cat ([false, false, false, false]) ([true]))) :: pt dd (.xd [("at", v)]) :: da K v w :: Rs) H23) => ?_)))))))))))))))))))))))))))))))))))))))))
    exact hk _ _ _ hf (M.sub (.cons 0 rfl (.cons 1 rfl (.cons 1 rfl (.tl (.refl _))))) S22)
  | NoMoment w =>
    refine g_seq (g_asg (g_lst (g_cons (g_cb (g_cons (g_var rfl (g_cons (g_c (g_nil (v_isX T.xc_NoMoment (S0.got 0 rfl) T.xk_NoMoment_There (g_cons (g_cb (g_cons (g_var rfl (g_cons (g_c (g_nil (v_isX T.xc_NoMoment (S0.got 0 rfl) T.xk_NoMoment_TooMany (g_cons (g_cb (g_cons (g_var rfl (g_cons (g_c (g_nil (v_isX T.xc_NoMoment (S0.got 0 rfl) T.xk_NoMoment_NoBase (g_cons (g_cb (g_cons (g_var rfl (g_cons (g_c (g_nil (v_isX T.xc_NoMoment (S0.got 0 rfl) T.xk_NoMoment_NoMoment (g_nil (v_lsto (ds := ([false, false, false, true]).map eB) S0 (EnF.consA (EnF.all fun _ => .bl _) (EnF.consA (EnF.all fun _ => .bl _) (EnF.consA (EnF.all fun _ => .bl _) (EnF.consA (EnF.all fun _ => .bl _) EnF.nilA)))) (len_ok rfl) fun p25 H27 (S26 : M (acR K p25 (([false, false, false, true]).map eB) :: pt dd (.xd [("time", v)]) :: da K v w :: Rs) H27) => ?_))))))))))))))))))))))))))))))))))))
    have S29 : M (da K (V.ref p25) ((eL eB) ([false, false, false, true])) :: pt dd (.xd [("time", v)]) :: da K v w :: Rs) H27 := acR_fixL S26
    refine g_nx ?_
    refine g_seq (g_asg (g_op (g_var rfl (g_lst (g_cons (g_cb (g_cons (g_var rfl (g_cons (g_c (g_nil (v_isX T.xc_NoMoment (S29.got 1 rfl) T.xk_NoMoment_Wrong (g_nil (v_lsto (ds := ([false]).map eB) S29 (EnF.consA (EnF.all fun _ => .bl _) EnF.nilA) (len_ok rfl) fun p31 H33 (S32 : M (acR K p31 (([false]).map eB) :: da K (V.ref p25) ((eL eB) ([false, false, false, true])) :: pt dd (.xd [("time", v)]) :: da K v w :: Rs) H33) => ?_))))))))))))))
    have S35 : M (da K (V.ref p31) ((eL eB) ([false])) :: da K (V.ref p25) ((eL eB) ([false, false, false, true])) :: pt dd (.xd [("time", v)]) :: da K v w :: Rs) H33 := acR_fixL S32
    obtain ⟨h37, hf⟩ := hf
    refine v_catN flB S35 (M.gotA S35 1 rfl) (M.gotA S35 0 rfl) h37 fun p38 H40 (S39 : M (acR K p38 ((cat ([false, false, false, true]) ([false])).map eB) :: da K (V.ref p31) ((eL eB) ([false])) :: da K (V.ref p25) ((eL eB) ([false, false, false, true])) :: pt dd (.xd [("time", v)]) :: da K v w :: Rs) H40) => ?_
    have S42 : M (da K (V.ref p38) ((eL eB) (cat ([false, false, false, true]) ([false]))) :: da K (V.ref p31) ((eL eB) ([false])) :: da K (V.ref p25) ((eL eB) ([false, false, false, true])) :: pt dd (.xd [("time", v)]) :: da K v w :: Rs) H40 := acR_fixL S39
    refine g_nx ?_
    have S44 : M (da K (V.ref p38) ((eL eB) (cat ([false, false, false, true]) ([false]))) :: pt dd (.xd [("time", v)]) :: da K v w :: Rs) H40 := (M.drp (M.drp S42 2) 1)
    refine g_seq (g_if (g_orP (c1 := (!decide (1 = 1))) (c2 := (!decide (true = true))) (fun _ hq => ?_) (fun _ hq => ?_) ?_))
    ·
      refine g_test (g_op (g_bm (g_var rfl (M.tyA S44 0 rfl (g_cons (g_c (g_nil (v_cntBc (n := 1) (M.gotA S44 0 rfl) (by decide) (g_c (v_neI (g_bl ?_)))))))))))
      exact hq
    ·
      refine g_test (g_op (g_cb (g_cons (g_var rfl (g_cons (g_c (g_nil (v_isXT T.xc_NoMoment (S44.got 1 rfl) T.xk_NoMoment_LookupError (g_op (g_var rfl (g_c (v_ixN flB (M.gotA S44 0 rfl) (x := true) rfl (v_neB (g_bl ?_))))))))))))))
      exact hq
    refine v_ifcF (by decide) (g_next (g_nx (g_seq (g_if (g_B (g_op (g_var rfl (g_c (v_ixN flB (M.gotA S44 0 rfl) (x := false) rfl (g_bl (v_ifF (g_next (g_nx (g_seq (g_if (g_B (g_op (g_var rfl (g_c (v_ixN flB (M.gotA S44 0 rfl) (x := false) rfl (g_bl (v_ifF (g_next (g_nx (g_seq (g_if (g_B (g_op (g_var rfl (g_c (v_ixN flB (M.gotA S44 0 rfl) (x := false) rfl (g_bl (v_ifF (g_next (g_nx (g_ret (g_tup (g_cons (g_op (g_lst (g_cons (g_c (g_cons (g_c (g_nil (v_lsto (ds := ([("NoBase" : Str), ("NoMoment" : Str)]).map eS) S44 (EnF.consA (EnF.all fun _ => .str _) (EnF.consA (EnF.all fun _ => .str _) EnF.nilA)) (len_ok rfl) fun p45 H47 (S46 : M (acR K p45 (([("NoBase" : Str), ("NoMoment" : Str)]).map eS) :: da K (V.ref p38) ((eL eB) (cat ([false, false, false, true]) ([false]))) :: pt dd (.xd [("time", v)]) :: da K v w :: Rs) H47) => ?_))))))))))))))))))))))))))))))))))))))))))))))
    refine g_cb (g_cons (g_op (g_var rfl (g_c (v_ixN flB (M.gotA S46 1 rfl) (x := true) rfl (g_nil (v_intB ?_)))))))
    have S49 : M (da K (V.ref p45) ((eL eS) ([("NoBase" : Str), ("NoMoment" : Str)])) :: da K (V.ref p38) ((eL eB) (cat ([false, false, false, true]) ([false]))) :: pt dd (.xd [("time", v)]) :: da K v w :: Rs) H47 := acR_fixL S46
    obtain ⟨x51, h52, hf⟩ := hf
    refine v_ixN flS (M.gotA S49 0 rfl) h52 (g_cons (g_xgv rfl T.xc_NoMoment (chN_ok T.xn_NoMoment_time) (S49.got 2 rfl) rfl (g_nil (v_tupq S49 (EnF.consA (EnF.all fun _ => .str _) (EnF.consA (EnF.at 3 rfl) EnF.nilA)) (len_ok rfl) fun p53 H55 (S54 : M (da K (V.ref p53) ((eP eS eA) (x51, w)) :: da K (V.ref p45) ((eL eS) ([("NoBase" : Str), ("NoMoment" : Str)])) :: da K (V.ref p38) ((eL eB) (cat ([false, false, false, true]) ([false]))) :: pt dd (.xd [("time", v)]) :: da K v w :: Rs) H55) => ?_))))
    exact hk _ _ _ hf (M.sub (.cons 0 rfl (.cons 2 rfl (.cons 2 rfl (.tl (.tl (.refl _)))))) S54)
  | There w =>
    refine g_seq (g_asg (g_lst (g_cons (g_cb (g_cons (g_var rfl (g_cons (g_c (g_nil (v_isX T.xc_There (S0.got 0 rfl) T.xk_There_There (g_cons (g_cb (g_cons (g_var rfl (g_cons (g_c (g_nil (v_isX T.xc_There (S0.got 0 rfl) T.xk_There_TooMany (g_cons (g_cb (g_cons (g_var rfl (g_cons (g_c (g_nil (v_isX T.xc_There (S0.got 0 rfl) T.xk_There_NoBase (g_cons (g_cb (g_cons (g_var rfl (g_cons (g_c (g_nil (v_isX T.xc_There (S0.got 0 rfl) T.xk_There_NoMoment (g_nil (v_lsto (ds := ([true, false, false, false]).map eB) S0 (EnF.consA (EnF.all fun _ => .bl _) (EnF.consA (EnF.all fun _ => .bl _) (EnF.consA (EnF.all fun _ => .bl _) (EnF.consA (EnF.all fun _ => .bl _) EnF.nilA)))) (len_ok rfl) fun p57 H59 (S58 : M (acR K p57 (([true, false, false, false]).map eB) :: pt dd (.xd [("thing", v)]) :: da K v w :: Rs) H59) => ?_))))))))))))))))))))))))))))))))))))
    have S61 : M (da K (V.ref p57) ((eL eB) ([true, false, false, false])) :: pt dd (.xd [("thing", v)]) :: da K v w :: Rs) H59 := acR_fixL S58
    refine g_nx ?_
    refine g_seq (g_asg (g_op (g_var rfl (g_lst (g_cons (g_cb (g_cons (g_var rfl (g_cons (g_c (g_nil (v_isX T.xc_There (S61.got 1 rfl) T.xk_There_Wrong (g_nil (v_lsto (ds := ([false]).map eB) S61 (EnF.consA (EnF.all fun _ => .bl _) EnF.nilA) (len_ok rfl) fun p63 H65 (S64 : M (acR K p63 (([false]).map eB) :: da K (V.ref p57) ((eL eB) ([true, false, false, false])) :: pt dd (.xd [("thing", v)]) :: da K v w :: Rs) H65) => ?_))))))))))))))
    have S67 : M (da K (V.ref p63) ((eL eB) ([false])) :: da K (V.ref p57) ((eL eB) ([true, false, false, false])) :: pt dd (.xd [("thing", v)]) :: da K v w :: Rs) H65 := acR_fixL S64
    obtain ⟨h69, hf⟩ := hf
    refine v_catN flB S67 (M.gotA S67 1 rfl) (M.gotA S67 0 rfl) h69 fun p70 H72 (S71 : M (acR K p70 ((cat ([true, false, false, false]) ([false])).map eB) :: da K (V.ref p63) ((eL eB) ([false])) :: da K (V.ref p57) ((eL eB) ([true, false, false, false])) :: pt dd (.xd [("thing", v)]) :: da K v w :: Rs) H72) => ?_
    have S74 : M (da K (V.ref p70) ((eL eB) (cat ([true, false, false, false]) ([false]))) :: da K (V.ref p63) ((eL eB) ([false])) :: da K (V.ref p57) ((eL eB) ([true, false, false, false])) :: pt dd (.xd [("thing", v)]) :: da K v w :: Rs) H72 := acR_fixL S71
    refine g_nx ?_
    have S76 : M (da K (V.ref p70) ((eL eB) (cat ([true, false, false, false]) ([false]))) :: pt dd (.xd [("thing", v)]) :: da K v w :: Rs) H72 := (M.drp (M.drp S74 2) 1)
    refine g_seq (g_if (g_orP (c1 := (!decide (1 = 1))) (c2 := (!decide (false = false))) (fun _ hq => ?_) (fun _ hq => ?_) ?_))
    ·
      refine g_test (g_op (g_bm (g_var rfl (M.tyA S76 0 rfl (g_cons (g_c (g_nil (v_cntBc (n := 1) (M.gotA S76 0 rfl) (by decide) (g_c (v_neI (g_bl ?_)))))))))))
      exact hq
    ·
      refine g_test (g_op (g_cb (g_cons (g_var rfl (g_cons (g_c (g_nil (v_isXT T.xc_There (S76.got 1 rfl) T.xk_There_LookupError (g_op (g_var rfl (g_c (v_ixN flB (M.gotA S76 0 rfl) (x := false) rfl (v_neB (g_bl ?_))))))))))))))
      exact hq
    refine v_ifcF (by decide) (g_next (g_nx (g_seq (g_if (g_B (g_op (g_var rfl (g_c (v_ixN flB (M.gotA S76 0 rfl) (x := true) rfl (g_bl (v_ifT (g_ret (g_tup (g_cons (g_c (g_cons (g_xgv rfl T.xc_There (chN_ok T.xn_There_thing) (S76.got 1 rfl) rfl (g_nil (v_tupq S76 (EnF.consA (EnF.all fun _ => .str _) (EnF.consA (EnF.at 2 rfl) EnF.nilA)) (len_ok rfl) fun p77 H79 (S78 : M (da K (V.ref p77) ((eP eS eA) (("There" : Str), w)) :: da K (V.ref p70) ((eL eB) (cat ([true, false, false, false]) ([false]))) :: pt dd (.xd [("thing", v)]) :: da K v w :: Rs) H79) => ?_)))))))))))))))))))
    exact hk _ _ _ hf (M.sub (.cons 0 rfl (.cons 1 rfl (.cons 1 rfl (.tl (.refl _))))) S78)
  | TooMany w =>
    refine g_seq (g_asg (g_lst (g_cons (g_cb (g_cons (g_var rfl (g_cons (g_c (g_nil (v_isX T.xc_TooMany (S0.got 0 rfl) T.xk_TooMany_There (g_cons (g_cb (g_cons (g_var rfl (g_cons (g_c (g_nil (v_isX T.xc_TooMany (S0.got 0 rfl) T.xk_TooMany_TooMany (g_cons (g_cb (g_cons (g_var rfl (g_cons (g_c (g_nil (v_isX T.xc_TooMany (S0.got 0 rfl) T.xk_TooMany_NoBase (g_cons (g_cb (g_cons (g_var rfl (g_cons (g_c (g_nil (v_isX T.xc_TooMany (S0.got 0 rfl) T.xk_TooMany_NoMoment (g_nil (v_lsto (ds := ([false, true, false, false]).map eB) S0 (EnF.consA (EnF.all fun _ => .bl _) (EnF.consA (EnF.all fun _ => .bl _) (EnF.consA (EnF.all fun _ => .bl _) (EnF.consA (EnF.all fun _ => .bl _) EnF.nilA)))) (len_ok rfl) fun p81 H83 (S82 : M (acR K p81 (([false, true, false, false]).map eB) :: pt dd (.xd [("most", v)]) :: da K v w :: Rs) H83) => ?_))))))))))))))))))))))))))))))))))))
    have S85 : M (da K (V.ref p81) ((eL eB) ([false, true, false, false])) :: pt dd (.xd [("most", v)]) :: da K v w :: Rs) H83 := acR_fixL S82
    refine g_nx ?_
    refine g_seq (g_asg (g_op (g_var rfl (g_lst (g_cons (g_cb (g_cons (g_var rfl (g_cons (g_c (g_nil (v_isX T.xc_TooMany (S85.got 1 rfl) T.xk_TooMany_Wrong (g_nil (v_lsto (ds := ([false]).map eB) S85 (EnF.consA (EnF.all fun _ => .bl _) EnF.nilA) (len_ok rfl) fun p87 H89 (S88 : M (acR K p87 (([false]).map eB) :: da K (V.ref p81) ((eL eB) ([false, true, false, false])) :: pt dd (.xd [("most", v)]) :: da K v w :: Rs) H89) => ?_))))))))))))))
    have S91 : M (da K (V.ref p87) ((eL eB) ([false])) :: da K (V.ref p81) ((eL eB) ([false, true, false, false])) :: pt dd (.xd [("most", v)]) :: da K v w :: Rs) H89 := acR_fixL S88
    obtain ⟨h93, hf⟩ := hf
    refine v_catN flB S91 (M.gotA S91 1 rfl) (M.gotA S91 0 rfl) h93 fun p94 H96 (S95 : M (acR K p94 ((cat ([false, true, false, false]) ([false])).map eB) :: da K (V.ref p87) ((eL eB) ([false])) :: da K (V.ref p81) ((eL eB) ([false, true, false, false])) :: pt dd (.xd [("most", v)]) :: da K v w :: Rs) H96) => ?_
    have S98 : M (da K (V.ref p94) ((eL eB) (cat ([false, true, false, false]) ([false]))) :: da K (V.ref p87) ((eL eB) ([false])) :: da K (V.ref p81) ((eL eB) ([false, true, false, false])) :: pt dd (.xd [("most", v)]) :: da K v w :: Rs) H96 := acR_fixL S95
    refine g_nx ?_
    have S100 : M (da K (V.ref p94) ((eL eB) (cat ([false, true, false, false]) ([false]))) :: pt dd (.xd [("most", v)]) :: da K v w :: Rs) H96 := (M.drp (M.drp S98 2) 1)
    refine g_seq (g_if (g_orP (c1 := (!decide (1 = 1))) (c2 := (!decide (false = false))) (fun _ hq => ?_) (fun _ hq => ?_) ?_))
    ·
      refine g_test (g_op (g_bm (g_var rfl (M.tyA S100 0 rfl (g_cons (g_c (g_nil (v_cntBc (n := 1) (M.gotA S100 0 rfl) (by decide) (g_c (v_neI (g_bl ?_)))))))))))
      exact hq
    ·
      refine g_test (g_op (g_cb (g_cons (g_var rfl (g_cons (g_c (g_nil (v_isXT T.xc_TooMany (S100.got 1 rfl) T.xk_TooMany_LookupError (g_op (g_var rfl (g_c (v_ixN flB (M.gotA S100 0 rfl) (x := false) rfl (v_neB (g_bl ?_))))))))))))))
      exact hq
    refine v_ifcF (by decide) (g_next (g_nx (g_seq (g_if (g_B (g_op (g_var rfl (g_c (v_ixN flB (M.gotA S100 0 rfl) (x := false) rfl (g_bl (v_ifF (g_next (g_nx (g_seq (g_if (g_B (g_op (g_var rfl (g_c (v_ixN flB (M.gotA S100 0 rfl) (x := true) rfl (g_bl (v_ifT (g_ret (g_tup (g_cons (g_c (g_cons (g_xgv rfl T.xc_TooMany (chN_ok T.xn_TooMany_most) (S100.got 1 rfl) rfl (g_nil (v_tupq S100 (EnF.consA (EnF.all fun _ => .str _) (EnF.consA (EnF.at 2 rfl) EnF.nilA)) (len_ok rfl) fun p101 H103 (S102 : M (da K (V.ref p101) ((eP eS eA) (("TooMany" : Str), w)) :: da K (V.ref p94) ((eL eB) (cat ([false, true, false, false]) ([false]))) :: pt dd (.xd [("most", v)]) :: da K v w :: Rs) H103) => ?_))))))))))))))))))))))))))))))
    exact hk _ _ _ hf (M.sub (.cons 0 rfl (.cons 1 rfl (.cons 1 rfl (.tl (.refl _))))) S102)
  | NoBase w =>
    refine g_seq (g_asg (g_lst (g_cons (g_cb (g_cons (g_var rfl (g_cons (g_c (g_nil (v_isX T.xc_NoBase (S0.got 0 rfl) T.xk_NoBase_There (g_cons (g_cb (g_cons (g_var rfl (g_cons (g_c (g_nil (v_isX T.xc_NoBase (S0.got 0 rfl) T.xk_NoBase_TooMany (g_cons (g_cb (g_cons (g_var rfl (g_cons (g_c (g_nil (v_isX T.xc_NoBase (S0.got 0 rfl) T.xk_NoBase_NoBase (g_cons (g_cb (g_cons (g_var rfl (g_cons (g_c (g_nil (v_isX T.xc_NoBase (S0.got 0 rfl) T.xk_NoBase_NoMoment (g_nil (v_lsto (ds := ([false, false, true, false]).map eB) S0 (EnF.consA (EnF.all fun _ => .bl _) (EnF.consA (EnF.all fun _ => .bl _) (EnF.consA (EnF.all fun _ => .bl _) (EnF.consA (EnF.all fun _ => .bl _) EnF.nilA)))) (len_ok rfl) fun p105 H107 (S106 : M (acR K p105 (([false, false, true, false]).map eB) :: pt dd (.xd [("time", v)]) :: da K v w :: Rs) H107) => ?_))))))))))))))))))))))))))))))))))))
    have S109 : M (da K (V.ref p105) ((eL eB) ([false, false, true, false])) :: pt dd (.xd [("time", v)]) :: da K v w :: Rs) H107 := acR_fixL S106
    refine g_nx ?_
    refine g_seq (g_asg (g_op (g_var rfl (g_lst (g_cons (g_cb (g_cons (g_var rfl (g_cons (g_c (g_nil (v_isX T.xc_NoBase (S109.got 1 rfl) T.xk_NoBase_Wrong (g_nil (v_lsto (ds := ([false]).map eB) S109 (EnF.consA (EnF.all fun _ => .bl _) EnF.nilA) (len_ok rfl) fun p111 H113 (S112 : M (acR K p111 (([false]).map eB) :: da K (V.ref p105) ((eL eB) ([false, false, true, false])) :: pt dd (.xd [("time", v)]) :: da K v w :: Rs) H113) => ?_))))))))))))))
    have S115 : M (da K (V.ref p111) ((eL eB) ([false])) :: da K (V.ref p105) ((eL eB) ([false, false, true, false])) :: pt dd (.xd [("time", v)]) :: da K v w :: Rs) H113 := acR_fixL S112
    obtain ⟨h117, hf⟩ := hf
    refine v_catN flB S115 (M.gotA S115 1 rfl) (M.gotA S115 0 rfl) h117 fun p118 H120 (S119 : M (acR K p118 ((cat ([false, false, true, false]) ([false])).map eB) :: da K (V.ref p111) ((eL eB) ([false])) :: da K (V.ref p105) ((eL eB) ([false, false, true, false])) :: pt dd (.xd [("time", v)]) :: da K v w :: Rs) H120) => ?_
    have S122 : M (da K (V.ref p118) ((eL eB) (cat ([false, false, true, false]) ([false]))) :: da K (V.ref p111) ((eL eB) ([false])) :: da K (V.ref p105) ((eL eB) ([false, false, true, false])) :: pt dd (.xd [("time", v)]) :: da K v w :: Rs) H120 := acR_fixL S119
    refine g_nx ?_
    have S124 : M (da K (V.ref p118) ((eL eB) (cat ([false, false, true, false]) ([false]))) :: pt dd (.xd [("time", v)]) :: da K v w :: Rs) H120 := (M.drp (M.drp S122 2) 1)
    refine g_seq (g_if (g_orP (c1 := (!decide (1 = 1))) (c2 := (!decide (false = false))) (fun _ hq => ?_) (fun _ hq => ?_) ?_))
    ·
      refine g_test (g_op (g_bm (g_var rfl (M.tyA S124 0 rfl (g_cons (g_c (g_nil (v_cntBc (n := 1) (M.gotA S124 0 rfl) (by decide) (g_c (v_neI (g_bl ?_)))))))))))
      exact hq
    ·
      refine g_test (g_op (g_cb (g_cons (g_var rfl (g_cons (g_c (g_nil (v_isXT T.xc_NoBase (S124.got 1 rfl) T.xk_NoBase_LookupError (g_op (g_var rfl (g_c (v_ixN flB (M.gotA S124 0 rfl) (x := false) rfl (v_neB (g_bl ?_))))))))))))))
      exact hq
    refine v_ifcF (by decide) (g_next (g_nx (g_seq (g_if (g_B (g_op (g_var rfl (g_c (v_ixN flB (M.gotA S124 0 rfl) (x := false) rfl (g_bl (v_ifF (g_next (g_nx (g_seq (g_if (g_B (g_op (g_var rfl (g_c (v_ixN flB (M.gotA S124 0 rfl) (x := false) rfl (g_bl (v_ifF (g_next (g_nx (g_seq (g_if (g_B (g_op (g_var rfl (g_c (v_ixN flB (M.gotA S124 0 rfl) (x := false) rfl (g_bl (v_ifF (g_next (g_nx (g_ret (g_tup (g_cons (g_op (g_lst (g_cons (g_c (g_cons (g_c (g_nil (v_lsto (ds := ([("NoBase" : Str), ("NoMoment" : Str)]).map eS) S124 (EnF.consA (EnF.all fun _ => .str _) (EnF.consA (EnF.all fun _ => .str _) EnF.nilA)) (len_ok rfl) fun p125 H127 (S126 : M (acR K p125 (([("NoBase" : Str), ("NoMoment" : Str)]).map eS) :: da K (V.ref p118) ((eL eB) (cat ([false, false, true, false]) ([false]))) :: pt dd (.xd [("time", v)]) :: da K v w :: Rs) H127) => ?_))))))))))))))))))))))))))))))))))))))))))))))
    refine g_cb (g_cons (g_op (g_var rfl (g_c (v_ixN flB (M.gotA S126 1 rfl) (x := false) rfl (g_nil (v_intB ?_)))))))
    have S129 : M (da K (V.ref p125) ((eL eS) ([("NoBase" : Str), ("NoMoment" : Str)])) :: da K (V.ref p118) ((eL eB) (cat ([false, false, true, false]) ([false]))) :: pt dd (.xd [("time", v)]) :: da K v w :: Rs) H127 := acR_fixL S126
    obtain ⟨x131, h132, hf⟩ := hf
    refine v_ixN flS (M.gotA S129 0 rfl) h132 (g_cons (g_xgv rfl T.xc_NoBase (chN_ok T.xn_NoBase_time) (S129.got 2 rfl) rfl (g_nil (v_tupq S129 (EnF.consA (EnF.all fun _ => .str _) (EnF.consA (EnF.at 3 rfl) EnF.nilA)) (len_ok rfl) fun p133 H135 (S134 : M (da K (V.ref p133) ((eP eS eA) (x131, w)) :: da K (V.ref p125) ((eL eS) ([("NoBase" : Str), ("NoMoment" : Str)])) :: da K (V.ref p118) ((eL eB) (cat ([false, false, true, false]) ([false]))) :: pt dd (.xd [("time", v)]) :: da K v w :: Rs) H135) => ?_))))
    exact hk _ _ _ hf (M.sub (.cons 0 rfl (.cons 2 rfl (.cons 2 rfl (.tl (.tl (.refl _)))))) S134)
def p_l_call (a_here : ((List (Int × Str)) × (List (Int × (Option Int))) × (List (Int × (List (Str × (List Int))))))) (a_deed : PyData) (X : Ex → ((List (Int × Str)) × (List (Int × (Option Int))) × (List (Int × (List (Str × (List Int)))))) → Prop) (P : ((List (Int × Str)) × (List (Int × (Option Int))) × (List (Int × (List (Str × (List Int)))))) → Prop) : Prop := jn (fun k5 => ∃ x7, anyAt a_deed 0 = some x7 ∧ ∃ x12 : Str, x7 = eS x12 ∧ if (decide (x12 = ("put" : Str))) = true then (jn (fun k20 => ∃ x22, anyAt a_deed 3 = some x22 ∧ ∃ x27 : Str, x22 = eS x27 ∧ if (decide (x27 = ("full" : Str))) = true then (∃ x31, anyAt a_deed 1 = some x31 ∧ ∃ x36 : Int, x31 = eI x36 ∧ ((0 : Int) < 2) ∧ k20 (decide ((x36 % 2) = 0))) else (k20 false)) fun c16 => k5 c16) else (k5 false)) fun c1 => if c1 = true then (∃ x45, anyAt a_deed 1 = some x45 ∧ ∃ x50, anyAt a_deed 2 = some x50 ∧ ∃ x55 : Int, x45 = eI x55 ∧ ∃ x59 : (List (Str × (List Int))), x50 = (eD iS (eL eI)) x59 ∧ p_Links_put a_here x55 x59 ("full" : Str) (fun x69 m68 => X x69 m68) fun m64 => P m64) else (∃ x76, anyAt a_deed 0 = some x76 ∧ ∃ x81 : Str, x76 = eS x81 ∧ if (decide (x81 = ("put" : Str))) = true then (∃ x85, anyAt a_deed 1 = some x85 ∧ ∃ x90, anyAt a_deed 2 = some x90 ∧ ∃ x95, anyAt a_deed 3 = some x95 ∧ ∃ x100 : Int, x85 = eI x100 ∧ ∃ x104 : (List (Str × (List Int))), x90 = (eD iS (eL eI)) x104 ∧ ∃ x108 : Str, x95 = eS x108 ∧ p_Links_put a_here x100 x104 x108 (fun x118 m117 => X x118 m117) fun m113 => P m113) else (∃ x125, anyAt a_deed 0 = some x125 ∧ ∃ x130 : Str, x125 = eS x130 ∧ if (decide (x130 = ("merge" : Str))) = true then (∃ x134, anyAt a_deed 1 = some x134 ∧ ∃ x139 : Int, x134 = eI x139 ∧ p_Links_merge a_here x139 (fun x148 m147 => X x148 m147) fun m143 => P m143) else (∃ x155, anyAt a_deed 1 = some x155 ∧ ∃ x160 : Int, x155 = eI x160 ∧ p_Links_forget a_here x160 (fun x169 m168 => X x169 m168) fun m164 => P m164)))
def sp_l_call (K : PySem.W.Frag) : Sp := fun vs H Q E => ∃ (Rs : List Res) (p_a_here : Addr) (a_here : ((List (Int × Str)) × (List (Int × (Option Int))) × (List (Int × (List (Str × (List Int))))))) (v_a_deed : V) (a_deed : PyData) (X : Ex → ((List (Int × Str)) × (List (Int × (Option Int))) × (List (Int × (List (Str × (List Int)))))) → Prop) (P : ((List (Int × Str)) × (List (Int × (Option Int))) × (List (Int × (List (Str × (List Int)))))) → Prop), vs = [(V.ref p_a_here), v_a_deed] ∧ M (R_Links K p_a_here a_here :: da K v_a_deed (eA a_deed) :: Rs) H ∧ p_l_call a_here a_deed X P ∧ (∀ (x : Ex) (m0 : ((List (Int × Str)) × (List (Int × (Option Int))) × (List (Int × (List (Str × (List Int))))))) (d : Addr) (v : V) H', X x m0 → M (pt d (.xd [(x.fld, v)]) :: da K v x.val :: R_Links K p_a_here m0 :: Rs) H' → E (.ref (He.ga K x.cls)) (some d) H') ∧ ∀ (m0 : ((List (Int × Str)) × (List (Int × (Option Int))) × (List (Int × (List (Str × (List Int))))))) H', P m0 → M (R_Links K p_a_here m0 :: Rs) H' → Q .non H'
theorem len_l_call {K : PySem.W.Frag} (vs : List V) (H : Hp) (Q : VK) (E : XK) (h : sp_l_call K vs H Q E) : vs.length = 2 := by
  obtain ⟨Rs, p_a_here, a_here, v_a_deed, a_deed, X, P, rfl, _⟩ := h
  rfl
abbrev t_l_call_5 (K : PySem.W.Frag) (W : WX) : TS := (tSeq (tIfS (tTest (tOp (uEq K) (tOp (uIx K) (tVar 1) (tC (.int 0))) (tC (.str "merge")))) (tRet (tMethW W (He.ga K "Links") "merge" (sp_Links_merge K) [] (tVar 0) (tCons (tOp (uIx K) (tVar 1) (tC (.int 1))) tNil))) tNext)
  (tRet (tMethW W (He.ga K "Links") "forget" (sp_Links_forget K) [] (tVar 0) (tCons (tOp (uIx K) (tVar 1) (tC (.int 1))) tNil))))
abbrev t_l_call_3 (K : PySem.W.Frag) (W : WX) : TS := (tSeq (tIfS (tTest (tOp (uEq K) (tOp (uIx K) (tVar 1) (tC (.int 0))) (tC (.str "put")))) (tRet (tMethN 3 1 W (He.ga K "Links") "put" (sp_Links_put K) (fun vs zs => vs ++ (zs ++ [])) (tVar 0) (tCons (tOp (uIx K) (tVar 1) (tC (.int 1))) (tCons (tOp (uIx K) (tVar 1) (tC (.int 2))) tNil)) (tCons (tOp (uIx K) (tVar 1) (tC (.int 3))) tNil))) tNext)
  (t_l_call_5 K W))
abbrev t_l_call_1 (K : PySem.W.Frag) (W : WX) : TS := (tSeq (tIfS (tAnd (tTest (tOp (uEq K) (tOp (uIx K) (tVar 1) (tC (.int 0))) (tC (.str "put")))) (tAnd (tTest (tOp (uEq K) (tOp (uIx K) (tVar 1) (tC (.int 3))) (tC (.str "full")))) (tTest (tOp (uEq K) (tOp uMod (tOp (uIx K) (tVar 1) (tC (.int 1))) (tC (.int 2))) (tC (.int 0)))))) (tRet (tMethW W (He.ga K "Links") "put" (sp_Links_put K) [.str "full"] (tVar 0) (tCons (tOp (uIx K) (tVar 1) (tC (.int 1))) (tCons (tOp (uIx K) (tVar 1) (tC (.int 2))) tNil)))) tNext)
  (t_l_call_3 K W))
abbrev t_l_call (K : PySem.W.Frag) (W : WX) : TS := (t_l_call_1 K W)
theorem pure_l_call {K : PySem.W.Frag} (T : TxC K) (vs : List V) (H : Hp) (Q : VK) (E : XK) (h : sp_l_call K vs H Q E) : t_l_call K (WT E) { nx := fun _ H' => Q .non H', rt := Q } (L2.start ["_law_here", "_law_deed"] vs) H := by
  obtain ⟨Rs, p_a_here, a_here, v_a_deed, a_deed, X, P, rfl, S0, hf, hX, hk⟩ := h
  show t_l_call K (WT E) _ [some (V.ref p_a_here), some v_a_deed] H
  refine g_seq (g_if ?_)
  refine tt_cut hf (fun H => M (R_Links K p_a_here a_here :: da K v_a_deed (eA a_deed) :: Rs) H) (fun kk2 P3 hP4 hf => ?_) ?_
  ·
    refine g_and (g_test (g_op (g_op (g_var rfl (g_c ?_)))))
    obtain ⟨x7, h8, hf⟩ := hf
    refine v_ixa S0 1 rfl h8 fun u9 S10 => ?_
    refine g_c ?_
    obtain ⟨x12, h13, hf⟩ := hf
    have S14 := M.cstA S10 0 rfl h13
    obtain rfl := (S14.gotA 0 rfl).strV
    have S15 := S14.tl
    refine v_eqS (g_bl (v_iff hf (fun _ hf => ?_) (fun _ hf => ?_)))
    ·
      refine tt_cut hf (fun H => M (da K (V.str x12) (eA x7) :: R_Links K p_a_here a_here :: da K v_a_deed (eA a_deed) :: Rs) H) (fun kk17 P18 hP19 hf => ?_) ?_
      ·
        refine g_and (g_test (g_op (g_op (g_var rfl (g_c ?_)))))
        obtain ⟨x22, h23, hf⟩ := hf
        refine v_ixa S15 2 rfl h23 fun u24 S25 => ?_
        refine g_c ?_
        obtain ⟨x27, h28, hf⟩ := hf
        have S29 := M.cstA S25 0 rfl h28
        obtain rfl := (S29.gotA 0 rfl).strV
        have S30 := S29.tl
        refine v_eqS (g_bl (v_iff hf (fun _ hf => ?_) (fun _ hf => ?_)))
        ·
          refine g_test (g_op (g_op (g_op (g_var rfl (g_c ?_)))))
          obtain ⟨x31, h32, hf⟩ := hf
          refine v_ixa S30 3 rfl h32 fun u33 S34 => ?_
          refine g_c ?_
          obtain ⟨x36, h37, hf⟩ := hf
          have S38 := M.cstA S34 0 rfl h37
          obtain rfl := (S38.gotA 0 rfl).intV
          have S39 := S38.tl
          obtain ⟨h40, hf⟩ := hf
          refine v_mod h40 (g_c (v_eqI (g_bl ?_)))
          exact hP19 _ _ hf (M.sub (.cons 2 rfl (.cons 2 rfl (.cons 2 rfl (.tl (.tl (.refl _)))))) S39)
        ·
          exact hP19 _ _ hf (M.sub (.cons 1 rfl (.cons 1 rfl (.cons 1 rfl (.tl (.refl _))))) S30)
      intro c16 H42 hf S41
      exact hP4 _ _ hf (M.sub (.cons 1 rfl (.cons 1 rfl (.tl (.refl _)))) S41)
    ·
      exact hP4 _ _ hf (M.sub (.cons 1 rfl (.cons 1 rfl (.tl (.refl _)))) S15)
  intro c1 H44 hf S43
  refine v_iff hf (fun _ hf => ?_) (fun _ hf => ?_)
  ·
    refine g_ret (g_meth (g_var rfl (v_R_Links S43 0 rfl (fun _ _ _ _ => rfl) (g_cons (g_op (g_var rfl (g_c ?_)))))))
    obtain ⟨x45, h46, hf⟩ := hf
    refine v_ixa S43 1 rfl h46 fun u47 S48 => ?_
    refine g_cons (g_op (g_var rfl (g_c ?_)))
    obtain ⟨x50, h51, hf⟩ := hf
    refine v_ixa S48 2 rfl h51 fun u52 S53 => ?_
    refine g_nil ?_
    obtain ⟨x55, h56, hf⟩ := hf
    have S57 := M.cstA S53 1 rfl h56
    obtain rfl := (S57.gotA 0 rfl).intV
    have S58 := S57.tl
    obtain ⟨x59, h60, hf⟩ := hf
    have S61 := M.cstA S58 0 rfl h60
    refine ⟨_, _, _, _, _, _, _, _, _, rfl, (M.at (M.addA S61 (EnF.at 0 rfl)) 4 rfl), hf, fun x69 m68 d70 v71 H73 hf (S72 : M (pt d70 (.xd [(x69.fld, v71)]) :: da K v71 x69.val :: R_Links K p_a_here m68 :: da K u52 ((eD iS (eL eI)) x59) :: da K u52 (eA x50) :: da K (V.int x55) (eA x45) :: da K v_a_deed (eA a_deed) :: Rs) H73) => ?_, fun m64 H66 hf (S65 : M (R_Links K p_a_here m64 :: da K u52 ((eD iS (eL eI)) x59) :: da K u52 (eA x50) :: da K (V.int x55) (eA x45) :: da K v_a_deed (eA a_deed) :: Rs) H66) => ?_⟩
    ·
      exact hX x69 _ d70 v71 _ hf (M.sub (.cons 0 rfl (.cons 0 rfl (.cons 0 rfl (.tl (.tl (.tl (.tl (.refl _)))))))) S72)
    exact hk _ _ hf (M.sub (.cons 0 rfl (.tl (.tl (.tl (.tl (.refl _)))))) S65)
  ·
    refine g_next (g_nx (g_seq (g_if (g_test (g_op (g_op (g_var rfl (g_c ?_))))))))
    obtain ⟨x76, h77, hf⟩ := hf
    refine v_ixa S43 1 rfl h77 fun u78 S79 => ?_
    refine g_c ?_
    obtain ⟨x81, h82, hf⟩ := hf
    have S83 := M.cstA S79 0 rfl h82
    obtain rfl := (S83.gotA 0 rfl).strV
    have S84 := S83.tl
    refine v_eqS (g_bl (v_iff hf (fun _ hf => ?_) (fun _ hf => ?_)))
    ·
      refine g_ret (g_methN (g_var rfl (v_RN_Links S84 1 rfl (fun _ _ _ _ => rfl) (g_cons (g_op (g_var rfl (g_c ?_)))))))
      obtain ⟨x85, h86, hf⟩ := hf
      refine v_ixa S84 2 rfl h86 fun u87 S88 => ?_
      refine g_cons (g_op (g_var rfl (g_c ?_)))
      obtain ⟨x90, h91, hf⟩ := hf
      refine v_ixa S88 3 rfl h91 fun u92 S93 => ?_
      refine g_nil (g_cons (g_op (g_var rfl (g_c ?_))))
      obtain ⟨x95, h96, hf⟩ := hf
      refine v_ixa S93 4 rfl h96 fun u97 S98 => ?_
      refine g_nil (And.intro rfl (And.intro rfl ?_))
      obtain ⟨x100, h101, hf⟩ := hf
      have S102 := M.cstA S98 2 rfl h101
      obtain rfl := (S102.gotA 0 rfl).intV
      have S103 := S102.tl
      obtain ⟨x104, h105, hf⟩ := hf
      have S106 := M.cstA S103 1 rfl h105
      obtain ⟨x108, h109, hf⟩ := hf
      have S110 := M.cstA S106 1 rfl h109
      obtain rfl := (S110.gotA 0 rfl).strV
      have S111 := S110.tl
      refine ⟨_, _, _, _, _, _, _, _, _, rfl, (M.at (M.addA S111 (EnF.at 0 rfl)) 6 rfl), hf, fun x118 m117 d119 v120 H122 hf (S121 : M (pt d119 (.xd [(x118.fld, v120)]) :: da K v120 x118.val :: R_Links K p_a_here m117 :: da K u92 ((eD iS (eL eI)) x104) :: da K (V.str x108) (eA x95) :: da K u92 (eA x90) :: da K (V.int x100) (eA x85) :: da K (V.str x81) (eA x76) :: da K v_a_deed (eA a_deed) :: Rs) H122) => ?_, fun m113 H115 hf (S114 : M (R_Links K p_a_here m113 :: da K u92 ((eD iS (eL eI)) x104) :: da K (V.str x108) (eA x95) :: da K u92 (eA x90) :: da K (V.int x100) (eA x85) :: da K (V.str x81) (eA x76) :: da K v_a_deed (eA a_deed) :: Rs) H115) => ?_⟩
      ·
        exact hX x118 _ d119 v120 _ hf (M.sub (.cons 0 rfl (.cons 0 rfl (.cons 0 rfl (.tl (.tl (.tl (.tl (.tl (.tl (.refl _)))))))))) S121)
      exact hk _ _ hf (M.sub (.cons 0 rfl (.tl (.tl (.tl (.tl (.tl (.tl (.refl _)))))))) S114)
    ·
      refine g_next (g_nx (g_seq (g_if (g_test (g_op (g_op (g_var rfl (g_c ?_))))))))
      obtain ⟨x125, h126, hf⟩ := hf
      refine v_ixa S84 2 rfl h126 fun u127 S128 => ?_
      refine g_c ?_
      obtain ⟨x130, h131, hf⟩ := hf
      have S132 := M.cstA S128 0 rfl h131
      obtain rfl := (S132.gotA 0 rfl).strV
      have S133 := S132.tl
      refine v_eqS (g_bl (v_iff hf (fun _ hf => ?_) (fun _ hf => ?_)))
      ·
        refine g_ret (g_meth (g_var rfl (v_R_Links S133 2 rfl (fun _ _ _ _ => rfl) (g_cons (g_op (g_var rfl (g_c ?_)))))))
        obtain ⟨x134, h135, hf⟩ := hf
        refine v_ixa S133 3 rfl h135 fun u136 S137 => ?_
        refine g_nil ?_
        obtain ⟨x139, h140, hf⟩ := hf
        have S141 := M.cstA S137 0 rfl h140
        obtain rfl := (S141.gotA 0 rfl).intV
        have S142 := S141.tl
        refine ⟨_, _, _, _, _, _, rfl, (M.at S142 3 rfl), hf, fun x148 m147 d149 v150 H152 hf (S151 : M (pt d149 (.xd [(x148.fld, v150)]) :: da K v150 x148.val :: R_Links K p_a_here m147 :: da K (V.int x139) (eA x134) :: da K (V.str x130) (eA x125) :: da K (V.str x81) (eA x76) :: da K v_a_deed (eA a_deed) :: Rs) H152) => ?_, fun m143 H145 hf (S144 : M (R_Links K p_a_here m143 :: da K (V.int x139) (eA x134) :: da K (V.str x130) (eA x125) :: da K (V.str x81) (eA x76) :: da K v_a_deed (eA a_deed) :: Rs) H145) => ?_⟩
        ·
          exact hX x148 _ d149 v150 _ hf (M.sub (.cons 0 rfl (.cons 0 rfl (.cons 0 rfl (.tl (.tl (.tl (.tl (.refl _)))))))) S151)
        exact hk _ _ hf (M.sub (.cons 0 rfl (.tl (.tl (.tl (.tl (.refl _)))))) S144)
      ·
        refine g_next (g_nx (g_ret (g_meth (g_var rfl (v_R_Links S133 2 rfl (fun _ _ _ _ => rfl) (g_cons (g_op (g_var rfl (g_c ?_)))))))))
        obtain ⟨x155, h156, hf⟩ := hf
        refine v_ixa S133 3 rfl h156 fun u157 S158 => ?_
        refine g_nil ?_
        obtain ⟨x160, h161, hf⟩ := hf
        have S162 := M.cstA S158 0 rfl h161
        obtain rfl := (S162.gotA 0 rfl).intV
        have S163 := S162.tl
        refine ⟨_, _, _, _, _, _, rfl, (M.at S163 3 rfl), hf, fun x169 m168 d170 v171 H173 hf (S172 : M (pt d170 (.xd [(x169.fld, v171)]) :: da K v171 x169.val :: R_Links K p_a_here m168 :: da K (V.int x160) (eA x155) :: da K (V.str x130) (eA x125) :: da K (V.str x81) (eA x76) :: da K v_a_deed (eA a_deed) :: Rs) H173) => ?_, fun m164 H166 hf (S165 : M (R_Links K p_a_here m164 :: da K (V.int x160) (eA x155) :: da K (V.str x130) (eA x125) :: da K (V.str x81) (eA x76) :: da K v_a_deed (eA a_deed) :: Rs) H166) => ?_⟩
        ·
          exact hX x169 _ d170 v171 _ hf (M.sub (.cons 0 rfl (.cons 0 rfl (.cons 0 rfl (.tl (.tl (.tl (.tl (.refl _)))))))) S172)
        exact hk _ _ hf (M.sub (.cons 0 rfl (.tl (.tl (.tl (.tl (.refl _)))))) S165)
def p_l_say (a_here : ((List (Int × Str)) × (List (Int × (Option Int))) × (List (Int × (List (Str × (List Int))))))) (a_deed : PyData) (P : PyData → ((List (Int × Str)) × (List (Int × (Option Int))) × (List (Int × (List (Str × (List Int)))))) → Prop) : Prop := jn (β := Unit × ((List (Int × Str)) × (List (Int × (Option Int))) × (List (Int × (List (Str × (List Int))))))) (fun k2 => p_l_call a_here a_deed (fun x14 m13 => p_l_class x14 fun x22 => P x22 m13) fun m9 => k2 ((), m9)) fun s1 => P ((eP eS eN) (("told" : Str), s1.1)) s1.2
def sp_l_say (K : PySem.W.Frag) : Sp := fun vs H Q _ => ∃ (Rs : List Res) (p_a_here : Addr) (a_here : ((List (Int × Str)) × (List (Int × (Option Int))) × (List (Int × (List (Str × (List Int))))))) (v_a_deed : V) (a_deed : PyData) (P : PyData → ((List (Int × Str)) × (List (Int × (Option Int))) × (List (Int × (List (Str × (List Int)))))) → Prop), vs = [(V.ref p_a_here), v_a_deed] ∧ M (R_Links K p_a_here a_here :: da K v_a_deed (eA a_deed) :: Rs) H ∧ p_l_say a_here a_deed P ∧ ∀ (r : PyData) (m1 : ((List (Int × Str)) × (List (Int × (Option Int))) × (List (Int × (List (Str × (List Int))))))) (v : V) H', P r m1 → M (da K v (eA r) :: R_Links K p_a_here m1 :: Rs) H' → Q v H'
theorem len_l_say {K : PySem.W.Frag} (vs : List V) (H : Hp) (Q : VK) (E : XK) (h : sp_l_say K vs H Q E) : vs.length = 2 := by
  obtain ⟨Rs, p_a_here, a_here, v_a_deed, a_deed, P, rfl, _⟩ := h
  rfl
abbrev t_l_say_2 (K : PySem.W.Frag) : TS := (tSeq (tTry K W0 (fun W => (tAsg (tCallW W (sp_l_call K) [] (tCons (tVar 0) (tCons (tVar 1) tNil))) (gName 2))) [⟨[.ref (He.ga K "StoreError"), .ref (He.ga K "Missing")], some 3, fun a cls d => (tRet (tCallE a cls d (sp_l_class K) (tVar 3)))⟩])
  (tRet (tTup (tCons (tC (.str "told")) (tCons (tVar 2) tNil)))))
abbrev t_l_say_1 (K : PySem.W.Frag) : TS := (tSeq (tAsg (tC .non) (gName 2))
  (t_l_say_2 K))
abbrev t_l_say (K : PySem.W.Frag) : TS := (t_l_say_1 K)
theorem pure_l_say {K : PySem.W.Frag} (T : TxC K) (vs : List V) (H : Hp) (Q : VK) (E : XK) (h : sp_l_say K vs H Q E) : t_l_say K { nx := fun _ H' => Q .non H', rt := Q } (L2.start ["_law_here", "_law_deed", "_law_found", "_law_e"] vs) H := by
  obtain ⟨Rs, p_a_here, a_here, v_a_deed, a_deed, P, rfl, S0, hf, hk⟩ := h
  show t_l_say K _ [some (V.ref p_a_here), some v_a_deed, none, none] H
  refine g_seq (g_asg (g_c (g_nx ?_)))
  refine jn_cut (β := Unit × ((List (Int × Str)) × (List (Int × (Option Int))) × (List (Int × (List (Str × (List Int))))))) hf (fun (s1 : Unit × ((List (Int × Str)) × (List (Int × (Option Int))) × (List (Int × (List (Str × (List Int))))))) σ H' => ∃ (o7 : Option V), σ = [some (V.ref p_a_here), some v_a_deed, some V.non, o7] ∧ M (R_Links K p_a_here s1.2 :: da K v_a_deed (eA a_deed) :: Rs) H') (fun kk3 N4 hN5 hf => ?_) ?_
  ·
    refine g_try (g_asg (g_callW (g_cons (g_var rfl (g_cons (g_var rfl (g_nil (⟨_, _, _, _, _, _, _, rfl, (M.at (M.addA S0 (EnF.at 1 rfl)) 1 rfl), hf, fun x14 m13 d15 v16 H18 hf (S17 : M (pt d15 (.xd [(x14.fld, v16)]) :: da K v16 x14.val :: R_Links K p_a_here m13 :: da K v_a_deed (eA a_deed) :: Rs) H18) => ?_, fun m9 H11 hf (S10 : M (R_Links K p_a_here m9 :: da K v_a_deed (eA a_deed) :: Rs) H11) => ?_⟩))))))))
    ·
      refine v_hdY ?_ fun a21 => ?_
      ·
        cases x14 with
        | Wrong w => exact (exm_cons T.xm_Wrong_StoreError (exm_cons T.xm_Wrong_Missing rfl))
        | NoMoment w => exact (exm_cons T.xm_NoMoment_StoreError (exm_cons T.xm_NoMoment_Missing rfl))
        | There w => exact (exm_cons T.xm_There_StoreError (exm_cons T.xm_There_Missing rfl))
        | TooMany w => exact (exm_cons T.xm_TooMany_StoreError (exm_cons T.xm_TooMany_Missing rfl))
        | NoBase w => exact (exm_cons T.xm_NoBase_StoreError (exm_cons T.xm_NoBase_Missing rfl))
      refine g_ret (g_callE (g_var rfl (⟨rfl, _, _, _, x14, _, rfl, rfl, (M.sub (.cons 0 rfl (.cons 0 rfl (.refl _))) S17), hf, fun x22 u23 H25 hf (S24 : M (da K u23 (eA x22) :: pt d15 (.xd [(x14.fld, v16)]) :: da K v16 x14.val :: R_Links K p_a_here m13 :: da K v_a_deed (eA a_deed) :: Rs) H25) => ?_⟩)))
      exact hk _ _ _ _ hf (M.sub (.cons 0 rfl (.cons 2 rfl (.tl (.tl (.tl (.refl _)))))) S24)
    exact hN5 _ _ _ hf ⟨_, rfl, (M.sub (.cons 0 rfl (.cons 0 rfl (.refl _))) S10)⟩
  rintro s1 _ H28 hf ⟨o7, rfl, S27⟩
  refine g_ret (g_tup (g_cons (g_c (g_cons (g_var rfl (g_nil (v_tupq S27 (EnF.consA (EnF.all fun _ => .str _) (EnF.consA (EnF.all fun _ => .non) EnF.nilA)) (len_ok rfl) fun p29 H31 (S30 : M (da K (V.ref p29) ((eP eS eN) (("told" : Str), s1.1)) :: R_Links K p_a_here s1.2 :: da K v_a_deed (eA a_deed) :: Rs) H31) => ?_)))))))
  exact hk _ _ _ _ hf (M.sub (.cons 0 rfl (.cons 0 rfl (.tl (.refl _)))) S30)
def p_l_seal  (P : Int → Prop) : Prop := takeD 3 fun n2 => if (decide (n2 = 0)) = true then (takeD 3 fun n6 => P (1 + n6)) else (takeD 1000 fun n10 => takeD 1000 fun n14 => (CMul 1001 n14 ∨ CMulW 1001 n14) ∧ takeD 1000 fun n19 => ∃ x28, atI ([(1 + n10), ((1002 + (1001 * n14)) + n19)]) (n2 - 1) = some x28 ∧ P x28)
def sp_l_seal (K : PySem.W.Frag) : Sp := fun vs H Q _ => ∃ (Rs : List Res) (a_bag_here : Addr) (P : Int → Prop), vs = [(V.ref a_bag_here)] ∧ M (bagR a_bag_here :: Rs) H ∧ p_l_seal P ∧ ∀ (r : Int) H', P r → M (bagR a_bag_here :: Rs) H' → Q (V.int r) H'
theorem len_l_seal {K : PySem.W.Frag} (vs : List V) (H : Hp) (Q : VK) (E : XK) (h : sp_l_seal K vs H Q E) : vs.length = 1 := by
  obtain ⟨Rs, a_bag_here, P, rfl, _⟩ := h
  rfl
abbrev t_l_seal_2 (K : PySem.W.Frag) : TS := (tSeq (tIfS (tTest (tOp (uEq K) (tVar 1) (tC (.int 0)))) (tRet (tOp (uAdd K) (tC (.int 1)) (tCall (sp_l_take K) [] E0 (tCons (tVar 0) (tCons (tC (.int 3)) tNil))))) tNext)
  (tRet (tOp (uIx K) (tLst (tCons (tOp (uAdd K) (tC (.int 1)) (tCall (sp_l_take K) [] E0 (tCons (tVar 0) (tCons (tC (.int 1000)) tNil)))) (tCons (tOp (uAdd K) (tOp (uAdd K) (tC (.int 1002)) (tOp uMul (tC (.int 1001)) (tCall (sp_l_take K) [] E0 (tCons (tVar 0) (tCons (tC (.int 1000)) tNil))))) (tCall (sp_l_take K) [] E0 (tCons (tVar 0) (tCons (tC (.int 1000)) tNil)))) tNil))) (tOp uSub (tVar 1) (tC (.int 1))))))
abbrev t_l_seal_1 (K : PySem.W.Frag) : TS := (tSeq (tAsg (tCall (sp_l_take K) [] E0 (tCons (tVar 0) (tCons (tC (.int 3)) tNil))) (gName 1))
  (t_l_seal_2 K))
abbrev t_l_seal (K : PySem.W.Frag) : TS := (t_l_seal_1 K)
theorem pure_l_seal {K : PySem.W.Frag} (vs : List V) (H : Hp) (Q : VK) (E : XK) (h : sp_l_seal K vs H Q E) : t_l_seal K { nx := fun _ H' => Q .non H', rt := Q } (L2.start ["_law_bag_here", "_law_way"] vs) H := by
  obtain ⟨Rs, a_bag_here, P, rfl, S0, hf, hk⟩ := h
  show t_l_seal K _ [some (V.ref a_bag_here), none] H
  refine g_seq (g_asg (g_call (g_cons (g_var rfl (g_cons (g_c (g_nil ?_)))))))
  obtain ⟨h1, hf⟩ := hf
  refine u_take (S0.at 0 rfl) h1 fun n2 H4 n2l n2u (S3 : M (bagR a_bag_here :: Rs) H4) => ?_
  replace hf := hf n2 n2l n2u
  refine g_nx ?_
  refine g_seq (g_if (g_test (g_op (g_var rfl (g_c (v_eqI (g_bl (v_iff hf (fun _ hf => ?_) (fun _ hf => ?_)))))))))
  ·
    refine g_ret (g_op (g_c (g_call (g_cons (g_var rfl (g_cons (g_c (g_nil ?_))))))))
    obtain ⟨h5, hf⟩ := hf
    refine u_take (S3.at 0 rfl) h5 fun n6 H8 n6l n6u (S7 : M (bagR a_bag_here :: Rs) H8) => ?_
    replace hf := hf n6 n6l n6u
    refine v_add ?_
    exact hk _ _ hf (M.sub (.cons 0 rfl (.refl _)) S7)
  ·
    refine g_next (g_nx (g_ret (g_op (g_lst (g_cons (g_op (g_c (g_call (g_cons (g_var rfl (g_cons (g_c (g_nil ?_)))))))))))))
    obtain ⟨h9, hf⟩ := hf
    refine u_take (S3.at 0 rfl) h9 fun n10 H12 n10l n10u (S11 : M (bagR a_bag_here :: Rs) H12) => ?_
    replace hf := hf n10 n10l n10u
    refine v_add (g_cons (g_op (g_op (g_c (g_op (g_c (g_call (g_cons (g_var rfl (g_cons (g_c (g_nil ?_))))))))))))
    obtain ⟨h13, hf⟩ := hf
    refine u_take (S11.at 0 rfl) h13 fun n14 H16 n14l n14u (S15 : M (bagR a_bag_here :: Rs) H16) => ?_
    replace hf := hf n14 n14l n14u
    obtain ⟨h17, hf⟩ := hf
    refine v_mul h17 (v_add (g_call (g_cons (g_var rfl (g_cons (g_c (g_nil ?_)))))))
    obtain ⟨h18, hf⟩ := hf
    refine u_take (S15.at 0 rfl) h18 fun n19 H21 n19l n19u (S20 : M (bagR a_bag_here :: Rs) H21) => ?_
    replace hf := hf n19 n19l n19u
    refine v_add (g_nil (v_lsto (ds := ([(1 + n10), ((1002 + (1001 * n14)) + n19)]).map eI) S20 (EnF.consA (EnF.all fun _ => .int _) (EnF.consA (EnF.all fun _ => .int _) EnF.nilA)) (len_ok rfl) fun p22 H24 (S23 : M (acR K p22 (([(1 + n10), ((1002 + (1001 * n14)) + n19)]).map eI) :: bagR a_bag_here :: Rs) H24) => ?_))
    refine g_op (g_var rfl (g_c (v_sub ?_)))
    have S26 : M (da K (V.ref p22) ((eL eI) ([(1 + n10), ((1002 + (1001 * n14)) + n19)])) :: bagR a_bag_here :: Rs) H24 := acR_fixL S23
    obtain ⟨x28, h29, hf⟩ := hf
    refine v_ixN flI (M.gotA S26 0 rfl) h29 ?_
    exact hk _ _ hf (M.sub (.cons 1 rfl (.tl (.refl _))) S26)
def p_l_seals  (P : (List Int) → Prop) : Prop := takeD 5 fun n6 => ∃ x11, atI ([0, 1, 2, 3, 6]) n6 = some x11 ∧ ((-(2 ^ 62) : Int) ≤ x11 ∧ x11 < (2 ^ 62 : Int)) ∧ (rng x11).length ≤ 100000 ∧ lcD (fun (x17 : Int) (k24 : Option Int → Prop) => p_l_seal fun x25 => k24 (some x25)) (rng x11) [] fun acc14 => P acc14
def sp_l_seals (K : PySem.W.Frag) : Sp := fun vs H Q _ => ∃ (Rs : List Res) (a_bag_here : Addr) (P : (List Int) → Prop), vs = [(V.ref a_bag_here)] ∧ M (bagR a_bag_here :: Rs) H ∧ p_l_seals P ∧ ∀ (r : (List Int)) (v : V) H', P r → M (da K v ((eL eI) r) :: bagR a_bag_here :: Rs) H' → Q v H'
theorem len_l_seals {K : PySem.W.Frag} (vs : List V) (H : Hp) (Q : VK) (E : XK) (h : sp_l_seals K vs H Q E) : vs.length = 1 := by
  obtain ⟨Rs, a_bag_here, P, rfl, _⟩ := h
  rfl
abbrev t_l_seals (K : PySem.W.Frag) : TS := (tRet (tLc (iRng1 (tCons (tOp (uIx K) (tLst (tCons (tC (.int 0)) (tCons (tC (.int 1)) (tCons (tC (.int 2)) (tCons (tC (.int 3)) (tCons (tC (.int 6)) tNil)))))) (tCall (sp_l_take K) [] E0 (tCons (tVar 0) (tCons (tC (.int 5)) tNil)))) tNil)) (gName 1) tYes (tCall (sp_l_seal K) [] E0 (tCons (tVar 0) tNil)) [1]))
theorem pure_l_seals {K : PySem.W.Frag} (vs : List V) (H : Hp) (Q : VK) (E : XK) (h : sp_l_seals K vs H Q E) : t_l_seals K { nx := fun _ H' => Q .non H', rt := Q } (L2.start ["_law_bag_here", "_law_k"] vs) H := by
  obtain ⟨Rs, a_bag_here, P, rfl, S0, hf, hk⟩ := h
  show t_l_seals K _ [some (V.ref a_bag_here), none] H
  refine g_ret (g_lc (g_iRng1 (g_cons (g_op (g_lst (g_cons (g_c (g_cons (g_c (g_cons (g_c (g_cons (g_c (g_cons (g_c (g_nil (v_lsto (ds := ([0, 1, 2, 3, 6]).map eI) S0 (EnF.consA (EnF.all fun _ => .int _) (EnF.consA (EnF.all fun _ => .int _) (EnF.consA (EnF.all fun _ => .int _) (EnF.consA (EnF.all fun _ => .int _) (EnF.consA (EnF.all fun _ => .int _) EnF.nilA))))) (len_ok rfl) fun p1 H3 (S2 : M (acR K p1 (([0, 1, 2, 3, 6]).map eI) :: bagR a_bag_here :: Rs) H3) => ?_)))))))))))))))))
  refine g_call (g_cons (g_var rfl (g_cons (g_c (g_nil ?_)))))
  obtain ⟨h5, hf⟩ := hf
  refine u_take (S2.at 1 rfl) h5 fun n6 H8 n6l n6u (S7 : M (bagR a_bag_here :: acR K p1 (([0, 1, 2, 3, 6]).map eI) :: Rs) H8) => ?_
  replace hf := hf n6 n6l n6u
  have S9 : M (da K (V.ref p1) ((eL eI) ([0, 1, 2, 3, 6])) :: bagR a_bag_here :: Rs) H8 := acR_fixL (S7.at 1 rfl)
  obtain ⟨x11, h12, hf⟩ := hf
  obtain ⟨h13, hf⟩ := hf
  refine v_ixN flI (M.gotA S9 0 rfl) h12 (g_nil (v_itR h13 ?_))
  refine lc_rng (K := K) (e' := eI) hf S9 (fun x17 acc14 E15 H23 kk16 N18 hl19 S22 hf hp20 hn21 => ?_) (fun E15 acc14 H32 hf S31 => ?_)
  ·
    refine g_name (g_wipe rfl (g_yes (v_ifT (g_call (g_cons (g_var rfl (g_nil (⟨_, _, _, rfl, (M.at S22 2 rfl), hf, fun x25 H27 hf (S26 : M (bagR a_bag_here :: acR K E15 (acc14.map eI) :: da K (V.ref p1) ((eL eI) ([0, 1, 2, 3, 6])) :: Rs) H27) => ?_⟩))))))))
    refine acR_put S26 1 rfl (EnF.all fun _ => .int _) hl19 fun H30 (S29 : M (acR K E15 (acc14.map eI ++ [eI x25]) :: bagR a_bag_here :: da K (V.ref p1) ((eL eI) ([0, 1, 2, 3, 6])) :: Rs) H30) => ?_
    exact hp20 _ _ hf (M.sub (.cons 0 rfl (.cons 1 rfl (.cons 0 rfl (.refl _)))) S29)
  have S34 : M (da K (V.ref E15) ((eL eI) acc14) :: da K (V.ref p1) ((eL eI) ([0, 1, 2, 3, 6])) :: bagR a_bag_here :: Rs) H32 := acR_fixL S31
  exact hk _ _ _ hf (M.sub (.cons 0 rfl (.cons 1 rfl (.tl (.refl _)))) S34)
def p_l_state (a_names_here : (List Str)) (P : (List (Str × (List Int))) → Prop) : Prop := (a_names_here).length ≤ 100000 ∧ lcD (fun (x4 : Str) (k11 : Option (Str × (List Int)) → Prop) => takeD 3 fun n13 => if (decide (0 < n13)) = true then (p_l_seals fun x16 => k11 (some (x4, x16))) else (k11 none)) a_names_here [] fun acc1 => P (dOf acc1.reverse)
def sp_l_state (K : PySem.W.Frag) : Sp := fun vs H Q _ => ∃ (Rs : List Res) (a_bag_here : Addr) (v_a_names_here : V) (a_names_here : (List Str)) (P : (List (Str × (List Int))) → Prop), vs = [(V.ref a_bag_here), v_a_names_here] ∧ M (bagR a_bag_here :: da K v_a_names_here ((eL eS) a_names_here) :: Rs) H ∧ p_l_state a_names_here P ∧ ∀ (r : (List (Str × (List Int)))) (v : V) H', P r → M (da K v ((eD iS (eL eI)) r) :: bagR a_bag_here :: Rs) H' → Q v H'
theorem len_l_state {K : PySem.W.Frag} (vs : List V) (H : Hp) (Q : VK) (E : XK) (h : sp_l_state K vs H Q E) : vs.length = 2 := by
  obtain ⟨Rs, a_bag_here, v_a_names_here, a_names_here, P, rfl, _⟩ := h
  rfl
abbrev t_l_state_1 (K : PySem.W.Frag) : TS := (tSeq (tAsg (tLc (iList K (tVar 1)) (gName 3) (tTest (tOp uGt (tCall (sp_l_take K) [] E0 (tCons (tVar 0) (tCons (tC (.int 3)) tNil))) (tC (.int 0)))) (tTup (tCons (tVar 3) (tCons (tCall (sp_l_seals K) [] E0 (tCons (tVar 0) tNil)) tNil))) [3]) (gName 2))
  (tRet (tFzE (tCB (rDictP K) (tCons (tRevL K (tVar 2)) tNil)))))
abbrev t_l_state (K : PySem.W.Frag) : TS := (t_l_state_1 K)
theorem pure_l_state {K : PySem.W.Frag} (vs : List V) (H : Hp) (Q : VK) (E : XK) (h : sp_l_state K vs H Q E) : t_l_state K { nx := fun _ H' => Q .non H', rt := Q } (L2.start ["_law_bag_here", "_law_names_here", "_law_some", "_law_name_here"] vs) H := by
  obtain ⟨Rs, a_bag_here, v_a_names_here, a_names_here, P, rfl, S0, hf, hk⟩ := h
  show t_l_state K _ [some (V.ref a_bag_here), some v_a_names_here, none, none] H
  refine g_seq (g_asg (g_lc (g_iList (g_var rfl ?_))))
  refine lc_N flS (K := K) (e' := (eP eS (eL eI))) hf S0 (fun _ S => S.gotA 1 rfl) (fun x4 acc1 E2 H10 kk3 N5 hl6 S9 hf hp7 hn8 => ?_) (fun E2 acc1 H28 hf S27 => ?_)
  ·
    refine g_name (g_wipe rfl (g_test (g_op (g_call (g_cons (g_var rfl (g_cons (g_c (g_nil ?_)))))))))
    obtain ⟨h12, hf⟩ := hf
    refine u_take (S9.at 1 rfl) h12 fun n13 H15 n13l n13u (S14 : M (bagR a_bag_here :: acR K E2 (acc1.map (eP eS (eL eI))) :: da K v_a_names_here ((eL eS) a_names_here) :: Rs) H15) => ?_
    replace hf := hf n13 n13l n13u
    refine g_c (v_gt (g_bl (v_iff hf (fun _ hf => ?_) (fun _ hf => ?_))))
    ·
      refine g_tup (g_cons (g_var rfl (g_cons (g_call (g_cons (g_var rfl (g_nil (⟨_, _, _, rfl, (M.at S14 0 rfl), hf, fun x16 u19 H18 hf (S17 : M (da K u19 ((eL eI) x16) :: bagR a_bag_here :: acR K E2 (acc1.map (eP eS (eL eI))) :: da K v_a_names_here ((eL eS) a_names_here) :: Rs) H18) => ?_⟩))))))))
      refine g_nil (v_tupq S17 (EnF.consA (EnF.all fun _ => .str _) (EnF.consA (EnF.at 0 rfl) EnF.nilA)) (len_ok rfl) fun p21 H23 (S22 : M (da K (V.ref p21) ((eP eS (eL eI)) (x4, x16)) :: da K u19 ((eL eI) x16) :: bagR a_bag_here :: acR K E2 (acc1.map (eP eS (eL eI))) :: da K v_a_names_here ((eL eS) a_names_here) :: Rs) H23) => ?_)
      refine acR_put S22 3 rfl (EnF.at 0 rfl) hl6 fun H26 (S25 : M (acR K E2 (acc1.map (eP eS (eL eI)) ++ [(eP eS (eL eI)) (x4, x16)]) :: da K (V.ref p21) ((eP eS (eL eI)) (x4, x16)) :: da K u19 ((eL eI) x16) :: bagR a_bag_here :: da K v_a_names_here ((eL eS) a_names_here) :: Rs) H26) => ?_
      exact hp7 _ _ hf (M.sub (.cons 0 rfl (.cons 2 rfl (.cons 2 rfl (.tl (.tl (.refl _)))))) S25)
    ·
      exact hn8 _ hf (M.sub (.cons 1 rfl (.cons 0 rfl (.cons 0 rfl (.refl _)))) S14)
  have S30 : M (da K (V.ref E2) ((eL (eP eS (eL eI))) acc1) :: bagR a_bag_here :: da K v_a_names_here ((eL eS) a_names_here) :: Rs) H28 := acR_fixL S27
  refine g_nx ?_
  refine g_ret (g_cb (g_cons (g_rev (g_var rfl (v_revq S30 0 rfl fun p32 H34 (S33 : M (acR K p32 (acc1.reverse.map (eP eS (eL eI))) :: da K (V.ref E2) ((eL (eP eS (eL eI))) acc1) :: bagR a_bag_here :: da K v_a_names_here ((eL eS) a_names_here) :: Rs) H34) => ?_)))))
  have S36 : M (da K (V.ref p32) ((eL (eP eS (eL eI))) acc1.reverse) :: da K (V.ref E2) ((eL (eP eS (eL eI))) acc1) :: bagR a_bag_here :: da K v_a_names_here ((eL eS) a_names_here) :: Rs) H34 := acR_fixL S33
  refine g_nil (v_dictp S36 0 rfl fun p38 H40 (S39 : M (adR K iS (eL eI) p38 (dOf acc1.reverse) :: da K (V.ref p32) ((eL (eP eS (eL eI))) acc1.reverse) :: da K (V.ref E2) ((eL (eP eS (eL eI))) acc1) :: bagR a_bag_here :: da K v_a_names_here ((eL eS) a_names_here) :: Rs) H40) => ?_)
  refine v_fzD S39 0 rfl fun H43 (S42 : M (da K (V.ref p38) ((eD iS (eL eI)) (dOf acc1.reverse)) :: da K (V.ref p32) ((eL (eP eS (eL eI))) acc1.reverse) :: da K (V.ref E2) ((eL (eP eS (eL eI))) acc1) :: bagR a_bag_here :: da K v_a_names_here ((eL eS) a_names_here) :: Rs) H43) => ?_
  exact hk _ _ _ hf (M.sub (.cons 0 rfl (.cons 2 rfl (.tl (.tl (.tl (.refl _)))))) S42)
/-! ### links, plain -/
abbrev Fs := List (Str × List Int)
abbrev LT := (List (Int × Str)) × (List (Int × (Option Int))) × (List (Int × Fs))
structure Row where
  kind : Str
  base : Option Int
  st : Fs
abbrev Ms := List (Int × Row)
def enc (m : Ms) : LT := (tr Row.kind m, tr Row.base m, tr Row.st m)
def GT (t : Int) : Prop := 0 ≤ t ∧ t ≤ 1000000
def GSl (n : Int) : Prop := n.natAbs < 2 ^ 200 ∧ ∀ P : Bool → Prop, P true → p_is_seal n P
def GSs (ns : List Int) : Prop := ns.length ≤ 48 ∧ ∀ n ∈ ns, GSl n
structure GSt (m : Fs) : Prop where
  nd : (ks m).Nodup
  nm : ∀ q ∈ m, GN q.1 ∧ GSs q.2
  ln : m.length ≤ 8
theorem is_time_ok {t : Int} {P : Bool → Prop} (g : GT t) (h : P true) : p_is_time t P := by
  unfold p_is_time p_is_whole jn
  dsimp only
  have e : (decide (0 ≤ t) && decide (t ≤ 1000000)) = true := by
    simp only [Bool.and_eq_true, decide_eq_true_eq]
    exact g
  rw [if_pos (by decide), e]
  exact h
theorem is_name_ok {s : Str} {P : Bool → Prop} (g : GN s) (h : P true) : p_is_name s P := by
  unfold p_is_name jn
  obtain ⟨h1, h2, h3⟩ := g
  refine ⟨by omega, ?_⟩
  rw [if_pos (by simp; omega)]
  dsimp only
  rw [if_neg (by simp; omega)]
  refine forD_inv (fun _ _ => True) (n := 0) trivial (fun i x s' kk hx _ hk => ?_) fun _ _ => h
  obtain ⟨c, hc, rfl⟩ := List.mem_map.mp (List.mem_of_getElem? hx)
  have hr := h3 c hc
  refine ⟨true, ?_, ?_⟩
  · show some (decide (c ∈ ("abcdefghijklmnopqrstuvwxyz" : Str).cps.toList)) = some true
    congr 1
    exact decide_eq_true (letters_mem hr)
  · show if (!true) = true then _ else _
    exact hk () trivial
theorem rng16 : rng 16 = [0, 1, 2, 3, 4, 5, 6, 7, 8, 9, 10, 11, 12, 13, 14, 15] := rfl
theorem seal1 {n : Int} (h1 : 1 ≤ n) (h2 : n ≤ 1000) : GSl n := by
  refine ⟨by have : (1000 : Nat) < 2 ^ 200 := by decide
             omega, fun P hP => ?_⟩
  unfold p_is_seal p_is_whole jn
  dsimp only
  rw [if_neg (by decide)]
  have e1 : decide (n < 1) = false := decide_eq_false (by omega)
  rw [e1, if_neg (by decide), rng16]
  refine ⟨by decide, ?_⟩
  simp only [forD]
  refine ⟨by decide, ?_⟩
  rw [if_neg (by simp only [decide_eq_true_eq]; omega)]
  refine ⟨⟨by decide, by decide⟩, ?_⟩
  rw [if_pos (by simp only [decide_eq_true_eq]; omega)]
  exact hP
theorem seal2 {a b : Int} (ha : 0 ≤ a ∧ a < 1000) (hb : 0 ≤ b ∧ b < 1000) : GSl ((1002 + 1001 * a) + b) := by
  have b2 : ((1002 + 1001 * a) + b).natAbs < 10000000 := by omega
  have b3 : (10000000 : Nat) < 2 ^ 200 := by decide
  refine ⟨Nat.lt_trans b2 b3, fun P hP => ?_⟩
  have d1 : ((1002 + 1001 * a) + b) / 1001 = a + 1 := by omega
  have m1 : ((1002 + 1001 * a) + b) % 1001 = b + 1 := by omega
  unfold p_is_seal p_is_whole jn
  dsimp only
  rw [if_neg (by decide)]
  have e1 : decide ((1002 + 1001 * a) + b < 1) = false := decide_eq_false (by omega)
  rw [e1, if_neg (by decide), rng16]
  refine ⟨by decide, ?_⟩
  simp only [forD]
  refine ⟨by decide, ?_⟩
  rw [m1, d1, if_neg (by simp only [decide_eq_true_eq]; omega)]
  refine ⟨⟨by decide, by decide⟩, ?_⟩
  rw [if_neg (by simp only [decide_eq_true_eq]; omega)]
  refine ⟨by decide, ?_⟩
  rw [if_neg (by simp only [decide_eq_true_eq]; omega)]
  refine ⟨⟨by decide, by decide⟩, ?_⟩
  rw [if_pos (by simp only [decide_eq_true_eq]; omega)]
  exact hP
theorem seal_ok {P : Int → Prop} (h : ∀ n, GSl n → P n) : p_l_seal P := by
  unfold p_l_seal
  refine tk (by decide) fun w lw uw => ?_
  split
  · exact tk (by decide) fun v l u => h _ (seal1 (by omega) (by omega))
  · rename_i z
    have hw : ¬ w = 0 := by simpa using z
    refine tk (by decide) fun a la ua => tk (by decide) fun c lc uc => ⟨cmul ⟨lc, by omega⟩ (by decide), tk (by decide) fun d ld ud => ?_⟩
    have : w = 1 ∨ w = 2 := by omega
    rcases this with rfl | rfl
    · exact ⟨1 + a, rfl, h _ (seal1 (by omega) (by omega))⟩
    · exact ⟨_, rfl, h _ (seal2 ⟨lc, uc⟩ ⟨ld, ud⟩)⟩
theorem seals_ok {P : List Int → Prop} (h : ∀ ns, GSs ns → P ns) : p_l_seals P := by
  unfold p_l_seals
  refine tk (by decide) fun w lw uw => ?_
  obtain ⟨x, hx, e⟩ := atI_ex (xs := ([0, 1, 2, 3, 6] : List Int)) lw uw
  have hb : 0 ≤ x ∧ x ≤ 6 := by
    simp only [List.mem_cons, List.not_mem_nil, or_false] at hx
    omega
  refine ⟨x, e, by omega, by rw [rng_len]; omega, ?_⟩
  refine lcD_all GSl (fun y _ kk hk => seal_ok hk) (fun _ z => nomatch z) fun ys hy hl => h ys ⟨?_, hy⟩
  rw [rng_len] at hl
  simp only [List.length_nil] at hl
  omega
theorem are_seals_ok {ns : List Int} {P : Bool → Prop} (g : GSs ns) (h : P true) : p_are_seals ns P := by
  unfold p_are_seals
  have := g.1
  rw [if_neg (by simp; omega)]
  refine forD_inv (fun _ _ => True) (n := 0) trivial (fun i x s' kk hx _ hk => ?_) fun _ _ => h
  refine (g.2 x (List.mem_of_getElem? hx)).2 _ ?_
  rw [if_neg (by decide)]
  exact hk () trivial
theorem is_state_ok {m : Fs} {P : Bool → Prop} (g : GSt m) (h : P true) : p_is_state m P := by
  unfold p_is_state
  have := g.ln
  rw [if_neg (by simp; omega)]
  refine forD_inv (fun _ _ => True) (n := 0) trivial (fun i x s' kk hx _ hk => ?_) fun _ _ => h
  obtain ⟨y, hy⟩ := lk_some (List.mem_of_getElem? hx)
  have gq := g.nm _ (lk_mem hy)
  unfold jn
  refine is_name_ok gq.1 ?_
  rw [if_neg (by decide)]
  refine ⟨y, hy, are_seals_ok gq.2 ?_⟩
  dsimp only
  rw [if_neg (by decide)]
  exact hk () trivial
theorem own_state_ok {m : Fs} {P : Fs → Prop} (g : GSt m) (h : P (cont m)) : p_own_state m P := by
  unfold p_own_state
  have := g.ln
  refine ⟨by rw [ks_len]; omega, by rw [srt_len, ks_len]; omega, dcD_nd (fun n => (lk m n).getD []) (srt_nd g.nd) (fun x _ z => nomatch z) (fun x hx acc kk _ h2 => ?_) h⟩
  obtain ⟨y, hy⟩ := lk_some (srt_mem hx)
  rw [hy] at h2
  exact ⟨y, hy, h2⟩
theorem lk_cont {m : Fs} (k : Str) : lk (cont m) k = lk m k := by
  have hm : ∀ xs : List Str, lk (xs.map fun n => (n, (lk m n).getD [])) k = if k ∈ xs then some ((lk m k).getD []) else none := by
    intro xs
    induction xs with
    | nil => simp
    | cons x xs ih =>
      rw [List.map_cons, lk_cons, ih]
      by_cases z : x = k
      · subst z
        simp
      · have : ¬ k = x := fun q => z q.symm
        simp [z, this]
  show lk ((srtS' (ks m)).map fun n => (n, (lk m n).getD [])) k = _
  rw [hm]
  cases e : lk m k with
  | none =>
    rw [if_neg]
    exact fun z => (lk_none_iff.mp e) (srt_mem z)
  | some x =>
    rw [if_pos ((srtS_perm _).mem_iff.mpr (mem_of_lk e))]
    rfl
theorem cont_cont {m : Fs} (nd : (ks m).Nodup) : cont (cont m) = cont m := by
  have n1 : (ks (cont m)).Nodup := by
    rw [cont_keys]
    exact srt_nd nd
  have n2 : (ks (cont (cont m))).Nodup := by
    rw [cont_keys]
    exact srt_nd n1
  refine dict_ext n2 ?_ fun k => lk_cont k
  rw [cont_keys, cont_keys]
  exact pwS_eq (srtS_perm _) (srtS_pw _) (srtS_pw _)
theorem cont_st {m : Fs} (g : GSt m) : GSt (cont m) := by
  refine ⟨by rw [cont_keys]; exact srt_nd g.nd, fun q hq => ?_, ?_⟩
  · obtain ⟨n, hn, rfl⟩ := List.mem_map.mp hq
    obtain ⟨y, hy⟩ := lk_some (srt_mem hn)
    rw [hy]
    exact g.nm _ (lk_mem hy)
  · show ((srtS' (ks m)).map _).length ≤ 8
    rw [List.length_map, srt_len, ks_len]
    exact g.ln
/-- names -/
theorem name_ok {P : Str → Prop} (h : ∀ s, GN s → P s) : p_l_name P := by
  unfold p_l_name
  refine tk (by decide) fun w lw uw => ?_
  split
  · refine tk (by decide) fun v l u => ?_
    obtain ⟨x, hx, e⟩ := atI_ex (xs := ([("full" : Str), ("step" : Str), ("wide" : Str), ("none" : Str), ("gone" : Str), ("put" : Str), ("at" : Str), ("run" : Str), ("a" : Str), ("aa" : Str), ("ab" : Str), ("b" : Str)])) l u
    refine ⟨x, e, h x ?_⟩
    have all : (([("full" : Str), ("step" : Str), ("wide" : Str), ("none" : Str), ("gone" : Str), ("put" : Str), ("at" : Str), ("run" : Str), ("a" : Str), ("aa" : Str), ("ab" : Str), ("b" : Str)]).all GNb) = true := by decide +kernel
    exact GNb_ok (List.all_eq_true.mp all x hx)
  · rename_i z
    have hw : ¬ w = 0 := by simpa using z
    obtain ⟨x, hx, e⟩ := atI_ex (xs := ([2, 8, 1] : List Int)) (i := w - 1) (by omega) (by simp; omega)
    have hb : 1 ≤ x ∧ x ≤ 8 := by
      simp only [List.mem_cons, List.not_mem_nil, or_false] at hx
      omega
    refine ⟨x, e, tk (by omega) fun v l u => ⟨by omega, by rw [rng_len]; omega, ?_⟩⟩
    refine lcD_all G1 (fun y _ kk hk => tk (by decide) fun c lc uc => ?_) (fun _ z => nomatch z) fun ys hy hl => ?_
    · obtain ⟨s, hs, g⟩ := letter_at lc uc
      exact ⟨s, hs, hk s g⟩
    · rw [rng_len] at hl
      simp only [List.length_nil] at hl
      refine ⟨?_, h _ (join_GN hy (by omega) (by omega))⟩
      have hlen : ∀ ys : List Str, (∀ y ∈ ys, G1 y) → (ys.map (·.length)).sum = ys.length := by
        intro ys
        induction ys with
        | nil => exact fun _ => rfl
        | cons y ys ih =>
          intro hy
          obtain ⟨c, rfl, _⟩ := hy y List.mem_cons_self
          rw [List.map_cons, List.sum_cons, ih fun z hz => hy z (List.mem_cons_of_mem _ hz), List.length_cons]
          show 1 + ys.length = _
          omega
      rw [hlen ys hy]
      have : (("" : Str)).length = 0 := rfl
      rw [this]
      omega
theorem G1_app {a b : Str} (ha : G1 a) (hb : G1 b) : GN (a ++ b) := by
  obtain ⟨x, rfl, hx⟩ := ha
  obtain ⟨y, rfl, hy⟩ := hb
  refine ⟨show 1 ≤ 2 by decide, show 2 ≤ 8 by decide, fun c hc => ?_⟩
  have : c = x ∨ c = y := by simpa using (show c ∈ [x, y] from hc)
  rcases this with rfl | rfl
  · exact hx
  · exact hy
theorem strL_G1 {x : Str} (h : x ∈ strL ("abcdefghijklmnopqrstuvwxyz" : Str)) : G1 x := by
  obtain ⟨c, hc, rfl⟩ := List.mem_map.mp h
  refine ⟨c, rfl, ?_⟩
  have all : (("abcdefghijklmnopqrstuvwxyz" : Str).cps.toList.all fun c => decide (97 ≤ c) && decide (c ≤ 122)) = true := by decide +kernel
  have := List.all_eq_true.mp all c hc
  simpa using this
theorem G1.len {x : Str} (h : G1 x) : x.length = 1 := by
  obtain ⟨c, rfl, _⟩ := h
  rfl
theorem names_ok {k : Int} (hk : 1 ≤ k ∧ k ≤ 30) {P : List Str → Prop} (h : ∀ ns : List Str, ns ≠ [] → (ns.length : Int) ≤ k → ns.Nodup → (∀ s ∈ ns, GN s) → P ns) : p_l_names k P := by
  unfold p_l_names
  have l26 : (strL ("abcdefghijklmnopqrstuvwxyz" : Str)).length = 26 := by decide +kernel
  refine ⟨by omega, by rw [rng_len]; omega, ?_⟩
  refine lcD_all GN (fun y _ kk hk => name_ok hk) (fun _ z => nomatch z) fun ys hy hl => ?_
  rw [rng_len] at hl
  simp only [List.length_nil] at hl
  refine ⟨by rw [l26]; decide, lcD_all GN (fun y hy kk hk => ⟨?_, hk _ (G1_app (strL_G1 hy) ⟨120, rfl, by decide⟩)⟩) (fun _ z => nomatch z) fun zs hz hlz => ?_⟩
  · rw [(strL_G1 hy).len]
    decide
  rw [l26] at hlz
  simp only [List.length_nil] at hlz
  refine ⟨by omega, by rw [l26]; decide, lcD_all GN (fun y hy kk hk => ⟨?_, hk _ (G1_app ⟨121, rfl, by decide⟩ (strL_G1 hy))⟩) (fun _ z => nomatch z) fun us hu hlu => ?_⟩
  · rw [(strL_G1 hy).len]
    decide
  rw [l26] at hlu
  simp only [List.length_nil] at hlu
  have lc : (cat (cat ys zs) us).length = ys.length + zs.length + us.length := by simp [Nat.add_assoc]
  refine ⟨by simp; omega, forD_inv (fun n s => (n = 0 ∨ s ≠ []) ∧ (s.length : Int) ≤ k ∧ s.Nodup ∧ ∀ x ∈ s, GN x) (n := 0) ⟨.inl rfl, by simp; omega, List.nodup_nil, fun _ z => nomatch z⟩ (fun i x s kk hx hi hk' => ?_) fun s hi => ?_⟩
  · obtain ⟨h0, h1, h2, h3⟩ := hi
    have gx : GN x := by
      have := List.mem_of_getElem? hx
      rcases List.mem_append.mp this with this | this
      · rcases List.mem_append.mp this with this | this
        · exact hy x this
        · exact hz x this
      · exact hu x this
    split
    · rename_i z
      simp only [Bool.and_eq_true, Bool.not_eq_true', decide_eq_false_iff_not, decide_eq_true_eq] at z
      refine ⟨by omega, hk' _ ⟨.inr (by simp), by simp; omega, ?_, ?_⟩⟩
      · exact List.nodup_append.mpr ⟨h2, by simp, fun a ha b hb => by
          have : b = x := by simpa using hb
          rw [this]
          exact fun e => z.1 (e ▸ ha)⟩
      · intro y hy
        rcases List.mem_append.mp hy with hy | hy
        · exact h3 y hy
        · have : y = x := by simpa using hy
          rw [this]
          exact gx
    · rename_i z
      refine hk' _ ⟨.inr ?_, h1, h2, h3⟩
      rcases h0 with h0 | h0
      · intro e
        subst e
        simp at z
        omega
      · exact h0
  · obtain ⟨h0, h1, h2, h3⟩ := hi
    refine h s ?_ h1 h2 h3
    rcases h0 with h0 | h0
    · rw [lc] at h0
      omega
    · exact h0
/-- a dict of drawn pairs -/
theorem dOf_good {ps : List (Str × List Int)} : (ks (dOf ps)).Nodup ∧ (∀ q ∈ dOf ps, q ∈ ps) := by
  have : ∀ (ps acc : List (Str × List Int)), (ks acc).Nodup → (ks (ps.foldl (fun acc q => pk acc q.1 q.2) acc)).Nodup ∧ ∀ q ∈ ps.foldl (fun acc q => pk acc q.1 q.2) acc, q ∈ acc ∨ q ∈ ps := by
    intro ps
    induction ps with
    | nil => exact fun acc h => ⟨h, fun q hq => .inl hq⟩
    | cons p ps ih =>
      intro acc h
      obtain ⟨h1, h2⟩ := ih (pk acc p.1 p.2) (nd_pk h)
      refine ⟨h1, fun q hq => ?_⟩
      rcases h2 q hq with z | z
      · rcases mem_pk z with z | z | z
        · exact .inr (by rw [z]; exact List.mem_cons_self)
        · exact .inl z.1
        · exact .inl z
      · exact .inr (List.mem_cons_of_mem _ z)
  obtain ⟨h1, h2⟩ := this ps [] List.nodup_nil
  exact ⟨h1, fun q hq => (h2 q hq).resolve_left (fun z => nomatch z)⟩
theorem state_ok' {ns : List Str} {P : Fs → Prop} (hl : ns.length ≤ 8) (g : ∀ s ∈ ns, GN s) (h : ∀ m, GSt m → (∀ x ∈ ks m, x ∈ ns) → P m) : p_l_state ns P := by
  unfold p_l_state
  refine ⟨by omega, ?_⟩
  have key : ∀ (xs : List Str) (acc : List (Str × List Int)) (k : List (Str × List Int) → Prop), (∀ x ∈ xs, x ∈ ns) → (∀ q ∈ acc, q.1 ∈ ns ∧ GSs q.2) → (∀ ys : List (Str × List Int), (∀ q ∈ ys, q.1 ∈ ns ∧ GSs q.2) → k ys) →
      lcD (fun (x4 : Str) (k11 : Option (Str × (List Int)) → Prop) => takeD 3 fun n13 => if (decide (0 < n13)) = true then (p_l_seals fun x16 => k11 (some (x4, x16))) else (k11 none)) xs acc k := by
    intro xs
    induction xs with
    | nil => exact fun acc k _ ha hk => hk acc ha
    | cons x xs ih =>
      intro acc k hx ha hk
      refine tk (by decide) fun v l u => ?_
      split
      · refine seals_ok fun ss gs => ih _ k (fun y hy => hx y (List.mem_cons_of_mem _ hy)) (fun q hq => ?_) hk
        rcases List.mem_append.mp hq with hq | hq
        · exact ha q hq
        · have : q = (x, ss) := by simpa using hq
          rw [this]
          exact ⟨hx x List.mem_cons_self, gs⟩
      · exact ih _ k (fun y hy => hx y (List.mem_cons_of_mem _ hy)) (by simpa using ha) hk
  refine key ns [] _ (fun _ z => z) (fun _ z => nomatch z) fun ys hy => ?_
  obtain ⟨h1, h2⟩ := dOf_good (ps := ys.reverse)
  have h3 : ∀ q ∈ dOf ys.reverse, q.1 ∈ ns ∧ GSs q.2 := fun q hq => hy q (List.mem_reverse.mp (h2 q hq))
  have h4 : ∀ x ∈ ks (dOf ys.reverse), x ∈ ns := fun x hx => by
    obtain ⟨q, hq, rfl⟩ := List.mem_map.mp hx
    exact (h3 q hq).1
  refine h _ ⟨h1, fun q hq => ⟨g _ (h3 q hq).1, (h3 q hq).2⟩, ?_⟩ h4
  have := nd_le h1 h4
  rw [ks_len] at this
  omega
/-! ### the deeds of links -/
theorem fow_ok {d : PyData} {X : Ex → Prop} {P : Unit → Prop} (h : P ()) : p_fit_or_wrong d true X P := by
  unfold p_fit_or_wrong
  rw [if_neg (by decide)]
  exact h
theorem need_ok {m : Ms} {t : Int} {X : Ex → Prop} {P : Unit → Prop} (g : GT t) (h1 : lk m t = none → X (.NoMoment (.int t))) (h2 : ∀ r, lk m t = some r → P ()) : p_Links_need_link (enc m) t X P := by
  unfold p_Links_need_link
  refine is_time_ok g (fow_ok ?_)
  show if (!(lk (tr Row.kind m) t).isSome) = true then _ else _
  rw [lk_tr]
  cases e : lk m t with
  | none => exact h1 e
  | some r => exact h2 r e
theorem times_ok {m : Ms} {P : List Int → Prop} (hl : m.length < 64) (h : P (srt (ks m))) : p_Links_times (enc m) P := by
  unfold p_Links_times
  show (ks (tr Row.kind m)).length < 64 ∧ P (srt (ks (tr Row.kind m)))
  rw [ks_tr, ks_len]
  exact ⟨hl, h⟩
theorem kind_ok {m : Ms} {t : Int} {X : Ex → Prop} {P : Str → Prop} (g : GT t) (h1 : lk m t = none → X (.NoMoment (.int t))) (h2 : ∀ r, lk m t = some r → P r.kind) : p_Links_kind (enc m) t X P := by
  unfold p_Links_kind
  refine need_ok g h1 fun r hr => ⟨r.kind, ?_, h2 r hr⟩
  show lk (tr Row.kind m) t = _
  rw [lk_tr, hr]
  rfl
theorem base_ok {m : Ms} {t : Int} {X : Ex → Prop} {P : Option Int → Prop} (g : GT t) (h1 : lk m t = none → X (.NoMoment (.int t))) (h2 : ∀ r, lk m t = some r → P r.base) : p_Links_base (enc m) t X P := by
  unfold p_Links_base
  refine need_ok g h1 fun r hr => ⟨r.base, ?_, h2 r hr⟩
  show lk (tr Row.base m) t = _
  rw [lk_tr, hr]
  rfl
structure GL (m : Ms) : Prop where
  nd : (ks m).Nodup
  ln : m.length ≤ 24
  tm : ∀ q ∈ m, GT q.1
  st : ∀ q ∈ m, GSt q.2.st ∧ cont q.2.st = q.2.st
  kd : ∀ q ∈ m, q.2.kind = "full" ∨ q.2.kind = "step" ∨ q.2.kind = "wide"
  bs : ∀ q ∈ m, ∀ b, q.2.base = some b → b ∈ ks m ∧ b < q.1
  fl : ∀ q ∈ m, q.2.base = none ↔ q.2.kind = "full"
theorem GL.nil : GL [] := ⟨List.nodup_nil, by decide, (fun _ z => nomatch z), (fun _ z => nomatch z), (fun _ z => nomatch z), (fun _ z => nomatch z), (fun _ z => nomatch z)⟩
theorem lstate_ok {m : Ms} {t : Int} {X : Ex → Prop} {P : Fs → Prop} (gl : GL m) (g : GT t) (h1 : lk m t = none → X (.NoMoment (.int t))) (h2 : ∀ r, lk m t = some r → P r.st) : p_Links_state (enc m) t X P := by
  unfold p_Links_state
  refine need_ok g h1 fun r hr => ⟨r.st, ?_, ?_⟩
  · show lk (tr Row.st m) t = _
    rw [lk_tr, hr]
    rfl
  · obtain ⟨a, b⟩ := gl.st _ (lk_mem hr)
    refine own_state_ok a ?_
    rw [b]
    exact h2 r hr
def isF (m : Ms) (o : Int) : Bool := match lk m o with
  | some r => decide (r.kind = "full")
  | none => false
def aheadF (m : Ms) (t : Int) (kind : Str) (o : Int) : Bool := decide (o < t) && (decide (kind = "step") || isF m o)
def baseP (m : Ms) (t : Int) (kind : Str) : Option Int := if kind = "full" then none else mxI ((ks m).filter (aheadF m t kind))
def dueP (m : Ms) (t : Int) (kind : Str) : Option Ex :=
  if (lk m t).isSome = true then some (.There (.int t)) else if 24 ≤ m.length then some (.TooMany (.int 24)) else
  if kind = "full" then none else if (ks m).filter (aheadF m t kind) = [] then some (.NoBase (.int t)) else none
theorem ahead_ok {m : Ms} {t : Int} {kind : Str} {X : Ex → Prop} {P : Option Int → Prop} (gl : GL m) (h : match dueP m t kind with | some x => X x | none => P (baseP m t kind)) : p_Links_base_ahead (enc m) t kind X P := by
  unfold p_Links_base_ahead
  show if ((lk (tr Row.kind m) t).isSome) = true then _ else _
  have hl := gl.ln
  unfold dueP baseP at h
  rw [lk_tr, Option.isSome_map]
  split
  · rename_i z
    rw [if_pos z] at h
    exact h
  · rename_i z
    rw [if_neg z] at h
    show if decide ((24 : Int) ≤ ((tr Row.kind m).length : Int)) = true then _ else _
    rw [len_tr]
    by_cases z2 : 24 ≤ m.length
    · rw [if_pos z2] at h
      rw [if_pos (by simp only [decide_eq_true_eq]; omega)]
      exact h
    · rw [if_neg z2] at h
      rw [if_neg (by simp only [decide_eq_true_eq]; omega)]
      by_cases z3 : kind = "full"
      · rw [if_pos z3] at h
        rw [if_pos (by simpa using z3)]
        simpa [z3] using h
      · rw [if_neg z3] at h
        rw [if_neg (by simpa using z3)]
        show (ks (tr Row.kind m)).length ≤ 100000 ∧ lcD _ (ks (tr Row.kind m)) [] _
        rw [ks_tr, ks_len]
        refine ⟨by omega, lcD_filter (aheadF m t kind) (fun o ho kk hk => ?_) ?_⟩
        · unfold jn
          dsimp only
          obtain ⟨r, hr⟩ := lk_some ho
          unfold aheadF isF at hk
          rw [hr] at hk
          by_cases z4 : o < t
          · rw [if_pos (by simpa using z4)]
            by_cases z5 : kind = "step"
            · rw [if_pos (by simpa using z5)]
              simpa [z4, z5] using hk
            · rw [if_neg (by simpa using z5)]
              refine ⟨r.kind, ?_, ?_⟩
              · show lk (tr Row.kind m) o = _
                rw [lk_tr, hr]
                rfl
              · simpa [z4, z5] using hk
          · rw [if_neg (by simpa using z4)]
            simpa [z4] using hk
        · by_cases z6 : (ks m).filter (aheadF m t kind) = []
          · rw [if_pos z6] at h
            rw [if_pos (by simpa using z6)]
            exact h
          · rw [if_neg z6] at h
            rw [if_neg (by simpa using z6)]
            obtain ⟨mx, hm⟩ := mxI_some z6
            simp only [if_neg z3] at h
            rw [hm] at h
            exact ⟨mx, hm, h⟩
def putM (m : Ms) (t : Int) (st : Fs) (kind : Str) : Ms := pk m t ⟨kind, baseP m t kind, cont st⟩
theorem put_ok {m : Ms} {t : Int} {st : Fs} {kind : Str} {X : Ex → LT → Prop} {P : LT → Prop} (gl : GL m) (gt : GT t) (gs : GSt st) (gk : kind = "full" ∨ kind = "step" ∨ kind = "wide") (h : match dueP m t kind with | some x => X x (enc m) | none => P (enc (putM m t st kind))) : p_Links_put (enc m) t st kind X P := by
  unfold p_Links_put
  refine is_time_ok gt (fow_ok (is_state_ok gs (fow_ok ?_)))
  have e : (([("full" : Str), ("step" : Str), ("wide" : Str)]).any fun y => decide (y = kind)) = true := by
    rcases gk with rfl | rfl | rfl <;> decide +kernel
  rw [e]
  refine fow_ok (ahead_ok gl ?_)
  have hl := gl.ln
  have l1 : (enc m).1.length = m.length := len_tr _ _
  have l2 : (enc m).2.1.length = m.length := len_tr _ _
  have l3 : (enc m).2.2.length = m.length := len_tr _ _
  cases hd : dueP m t kind with
  | some x =>
    rw [hd] at h
    exact h
  | none =>
    rw [hd] at h
    refine ⟨by rw [l1]; omega, by rw [l2]; omega, own_state_ok gs ⟨by rw [l3]; omega, ?_⟩⟩
    have e1 : pk (enc m).1 t kind = tr Row.kind (putM m t st kind) := pk_tr Row.kind m t ⟨kind, baseP m t kind, cont st⟩
    have e2 : pk (enc m).2.1 t (baseP m t kind) = tr Row.base (putM m t st kind) := pk_tr Row.base m t ⟨kind, baseP m t kind, cont st⟩
    have e3 : pk (enc m).2.2 t (cont st) = tr Row.st (putM m t st kind) := pk_tr Row.st m t ⟨kind, baseP m t kind, cont st⟩
    rw [e1, e2, e3]
    exact h
theorem put_good {m : Ms} {t : Int} {st : Fs} {kind : Str} (gl : GL m) (gt : GT t) (gs : GSt st) (gk : kind = "full" ∨ kind = "step" ∨ kind = "wide") (hd : dueP m t kind = none) : GL (putM m t st kind) := by
  have hn : lk m t = none := by
    unfold dueP at hd
    cases e : lk m t with
    | none => rfl
    | some r =>
      rw [e] at hd
      simp at hd
  have hl : ¬ 24 ≤ m.length := fun z => by
    unfold dueP at hd
    simp [hn, z] at hd
  have ek : putM m t st kind = m ++ [(t, ⟨kind, baseP m t kind, cont st⟩)] := pk_new hn
  have kk : ks (putM m t st kind) = ks m ++ [t] := by rw [ek]; simp [ks]
  have mem : ∀ q ∈ putM m t st kind, q ∈ m ∨ q = (t, ⟨kind, baseP m t kind, cont st⟩) := fun q hq => by
    rw [ek] at hq
    rcases List.mem_append.mp hq with z | z
    · exact .inl z
    · exact .inr (by simpa using z)
  refine ⟨nd_pk gl.nd, by rw [ek]; simp; omega, fun q hq => ?_, fun q hq => ?_, fun q hq => ?_, fun q hq b hb => ?_, fun q hq => ?_⟩
  · rcases mem q hq with z | rfl
    · exact gl.tm q z
    · exact gt
  · rcases mem q hq with z | rfl
    · exact gl.st q z
    · exact ⟨cont_st gs, cont_cont gs.nd⟩
  · rcases mem q hq with z | rfl
    · exact gl.kd q z
    · exact gk
  · rw [kk]
    rcases mem q hq with z | rfl
    · obtain ⟨h1, h2⟩ := gl.bs q z b hb
      exact ⟨List.mem_append_left _ h1, h2⟩
    · have hb : baseP m t kind = some b := hb
      unfold baseP at hb
      split at hb
      · cases hb
      · obtain ⟨h1, _⟩ := mxI_ok hb
        obtain ⟨h2, h3⟩ := List.mem_filter.mp h1
        unfold aheadF at h3
        simp only [Bool.and_eq_true, decide_eq_true_eq] at h3
        exact ⟨List.mem_append_left _ h2, h3.1⟩
  · rcases mem q hq with z | rfl
    · exact gl.fl q z
    · show baseP m t kind = none ↔ kind = "full"
      unfold baseP
      by_cases z : kind = "full"
      · simp [z]
      · rw [if_neg z]
        constructor
        · intro e
          unfold dueP at hd
          rw [hn] at hd
          simp only [Option.isSome_none, Bool.false_eq_true, if_false, if_neg hl, if_neg z] at hd
          split at hd
          · cases hd
          · rename_i y
            obtain ⟨mx, hm⟩ := mxI_some y
            rw [hm] at e
            cases e
        · exact fun e => absurd e z
theorem merge_ok {m : Ms} {t : Int} {X : Ex → LT → Prop} {P : LT → Prop} (gl : GL m) (gt : GT t) (h1 : lk m t = none → X (.NoMoment (.int t)) (enc m)) (h2 : ∀ r, lk m t = some r → P (enc (pk m t ⟨"full", none, r.st⟩))) : p_Links_merge (enc m) t X P := by
  unfold p_Links_merge
  have hl := gl.ln
  have l1 : (enc m).1.length = m.length := len_tr _ _
  have l2 : (enc m).2.1.length = m.length := len_tr _ _
  refine need_ok gt h1 fun r hr => ⟨by rw [l1]; omega, by rw [l2]; omega, ?_⟩
  have e1 : pk (enc m).1 t ("full" : Str) = tr Row.kind (pk m t ⟨"full", none, r.st⟩) := pk_tr Row.kind m t ⟨"full", none, r.st⟩
  have e2 : pk (enc m).2.1 t (none : Option Int) = tr Row.base (pk m t ⟨"full", none, r.st⟩) := pk_tr Row.base m t ⟨"full", none, r.st⟩
  have e3 : (enc m).2.2 = tr Row.st (pk m t ⟨"full", none, r.st⟩) := by
    show tr Row.st m = _
    refine dict_ext (by rw [ks_tr]; exact gl.nd) ?_ fun k => ?_
    · rw [ks_tr, ks_tr, ks_pk_old (by rw [hr]; rfl)]
    · rw [lk_tr, lk_tr, lk_pk]
      by_cases z : k = t
      · subst z
        rw [if_pos rfl, hr]
        rfl
      · rw [if_neg z]
  rw [e1, e2, e3]
  exact h2 r hr
/-! ### deeds told as tuples -/
theorem wl : ((("put" : Str) = ("merge" : Str)) = False) ∧ ((("merge" : Str) = ("put" : Str)) = False) ∧ ((("forget" : Str) = ("put" : Str)) = False) ∧ ((("forget" : Str) = ("merge" : Str)) = False) ∧ ((("step" : Str) = ("full" : Str)) = False) ∧ ((("wide" : Str) = ("full" : Str)) = False) ∧ ((("wide" : Str) = ("step" : Str)) = False) ∧ ((("full" : Str) = ("step" : Str)) = False) := by
  refine ⟨?_, ?_, ?_, ?_, ?_, ?_, ?_, ?_⟩ <;> exact eq_false (by decide +kernel)
def clsD : Ex → PyData
  | .Wrong w => eP eS eA (("Wrong" : Str), w)
  | .NoMoment w => eP eS eA (("NoMoment" : Str), w)
  | .There w => eP eS eA (("There" : Str), w)
  | .TooMany w => eP eS eA (("TooMany" : Str), w)
  | .NoBase w => eP eS eA (("NoBase" : Str), w)
theorem class_ok {x : Ex} {P : PyData → Prop} (h : P (clsD x)) : p_l_class x P := by
  unfold p_l_class
  cases x with
  | Wrong w => exact ⟨by decide, h⟩
  | NoMoment w => exact ⟨by decide, _, rfl, h⟩
  | There w => exact ⟨by decide, h⟩
  | TooMany w => exact ⟨by decide, h⟩
  | NoBase w => exact ⟨by decide, _, rfl, h⟩
def putD (t : Int) (st : Fs) (kind : Str) : PyData := eT4 eS eI (eD iS (eL eI)) eS (("put" : Str), t, st, kind)
theorem call_put {m : Ms} {t : Int} {st : Fs} {kind : Str} {X : Ex → LT → Prop} {P : LT → Prop} (gl : GL m) (gt : GT t) (gs : GSt st) (gk : kind = "full" ∨ kind = "step" ∨ kind = "wide") (h : match dueP m t kind with | some x => X x (enc m) | none => P (enc (putM m t st kind))) : p_l_call (enc m) (putD t st kind) X P := by
  unfold p_l_call jn
  refine ⟨_, rfl, ("put" : Str), rfl, ?_⟩
  rw [if_pos (by decide)]
  refine ⟨_, rfl, kind, rfl, ?_⟩
  by_cases z : kind = "full"
  · rw [if_pos (by simpa using z)]
    refine ⟨_, rfl, t, rfl, by decide, ?_⟩
    dsimp only
    split
    · refine ⟨_, rfl, _, rfl, t, rfl, st, rfl, ?_⟩
      subst z
      exact put_ok gl gt gs gk h
    · refine ⟨_, rfl, ("put" : Str), rfl, ?_⟩
      rw [if_pos (by decide)]
      exact ⟨_, rfl, _, rfl, _, rfl, t, rfl, st, rfl, kind, rfl, put_ok gl gt gs gk h⟩
  · rw [if_neg (by simpa using z)]
    dsimp only
    rw [if_neg (by decide)]
    refine ⟨_, rfl, ("put" : Str), rfl, ?_⟩
    rw [if_pos (by decide)]
    exact ⟨_, rfl, _, rfl, _, rfl, t, rfl, st, rfl, kind, rfl, put_ok gl gt gs gk h⟩
def saidP (m : Ms) (t : Int) (kind : Str) : PyData := match dueP m t kind with
  | some x => clsD x
  | none => eP eS eN (("told" : Str), ())
def stP (m : Ms) (t : Int) (st : Fs) (kind : Str) : Ms := match dueP m t kind with
  | some _ => m
  | none => putM m t st kind
theorem say_put {m : Ms} {t : Int} {st : Fs} {kind : Str} {P : PyData → LT → Prop} (gl : GL m) (gt : GT t) (gs : GSt st) (gk : kind = "full" ∨ kind = "step" ∨ kind = "wide") (h : P (saidP m t kind) (enc (stP m t st kind))) : p_l_say (enc m) (putD t st kind) P := by
  unfold p_l_say jn
  refine call_put gl gt gs gk ?_
  unfold saidP stP at h
  cases e : dueP m t kind with
  | some x =>
    rw [e] at h
    exact class_ok h
  | none =>
    rw [e] at h
    exact h
theorem stP_good {m : Ms} {t : Int} {st : Fs} {kind : Str} (gl : GL m) (gt : GT t) (gs : GSt st) (gk : kind = "full" ∨ kind = "step" ∨ kind = "wide") : GL (stP m t st kind) := by
  unfold stP
  cases e : dueP m t kind with
  | some x => exact gl
  | none => exact put_good gl gt gs gk e
theorem small {n : Int} (h : 0 ≤ n ∧ n ≤ 1000000) : n.natAbs < 2 ^ 1000 := by
  have h1 : (1000001 : Nat) < 2 ^ 200 := by decide
  have h2 : (2 : Nat) ^ 200 < 2 ^ 1000 := Nat.pow_lt_pow_right (by decide) (by decide)
  omega
theorem pair_sh {s : Str} {d : PyData} (hs : wdb s = true) (hd : ShQ 0 16 d) : ShQ 1 34 (eP eS eA (s, d)) := by
  have := ShQ.tup (dp := 0) (bk := 16) (ds := [.str s, d]) (fun x hx => by
    simp only [List.mem_cons, List.not_mem_nil, or_false] at hx
    rcases hx with rfl | rfl
    · exact ShQ.wd hs
    · exact hd)
  exact this
theorem saidP_alk {m : Ms} {t : Int} {kind : Str} (gt : GT t) : AlkOk (saidP m t kind) := by
  have i1 : ShQ 0 16 (.int t) := (ShQ.int (small gt)).up (by decide) (by decide)
  have i2 : ShQ 0 16 (.int 24) := (ShQ.int (small (by decide))).up (by decide) (by decide)
  have i3 : ShQ 0 16 PyData.none := ShQ.non.up (by decide) (by decide)
  unfold saidP
  cases e : dueP m t kind with
  | none => exact (pair_sh (s := "told") (by decide +kernel) i3).alk (by decide) (by decide)
  | some x =>
    unfold dueP at e
    split at e
    · cases e
      exact (pair_sh (s := "There") (by decide +kernel) i1).alk (by decide) (by decide)
    · split at e
      · cases e
        exact (pair_sh (s := "TooMany") (by decide +kernel) i2).alk (by decide) (by decide)
      · split at e
        · cases e
        · split at e
          · cases e
            exact (pair_sh (s := "NoBase") (by decide +kernel) i1).alk (by decide) (by decide)
          · cases e
theorem u_bag {K : PySem.W.Frag} {Rs : List Res} {H : Hp} {a : Addr} {ns : List Int} {Q : VK} {E : XK} (S : M Rs H) (h : Ent Rs (fun H => SqL K H a (ns.map V.int))) (hl : ns.length ≤ 63) (k : ∀ bag H', M (bagR bag :: Rs) H' → Q (.ref bag) H') :
    sp_l_bag K ([.ref a] ++ []) H Q E := ⟨Rs, a, ns, rfl, S, h, hl, k⟩
def sp_law (K : PySem.W.Frag) : Sp := fun vs H Q _ => ∃ (a : Addr) (ns : List Int), vs = [.ref a] ∧ SqL K H a (ns.map V.int) ∧ ns.length ≤ 63 ∧ ∀ H', Q (.bl true) H'
theorem len_law {K : PySem.W.Frag} (vs : List V) (H : Hp) (Q : VK) (E : XK) (h : sp_law K vs H Q E) : vs.length = 1 := by
  obtain ⟨x, y, rfl, _⟩ := h
  rfl
theorem law_start (K : PySem.W.Frag) (H : Hp) (a : Addr) (ns : List Int) (hl : ns.length ≤ 63) (hS : SqL K H a (ns.map V.int)) : sp_law K [.ref a] H (fun v _ => v = .bl true) fun _ _ _ => False := ⟨a, ns, rfl, hS, hl, fun _ => rfl⟩
def p_law (P : Bool → Prop) : Prop := takeD 4 fun n2 => p_l_names (1 + n2) fun x5 => ((-(2 ^ 62) : Int) ≤ 26 ∧ 26 < (2 ^ 62 : Int)) ∧ (rng 26).length ≤ 100000 ∧ lcD (fun (x14 : Int) (k21 : Option Int → Prop) => (CMul 10 x14 ∨ CMulW 10 x14) ∧ takeD 3 fun n28 => ∃ x33, atI ([x14, (10 * x14), (1000000 - x14)]) n28 = some x33 ∧ k21 (some x33)) (rng 26) [] fun acc11 => p_Links___init__  fun x48 => takeD 23 fun n53 => ((-(2 ^ 62) : Int) ≤ (4 + n53) ∧ (4 + n53) < (2 ^ 62 : Int)) ∧ forD (fun (x60 : Int) (s57 : ((List (Int × Str)) × (List (Int × (Option Int))) × (List (Int × (List (Str × (List Int))))))) (k58 : (((List (Int × Str)) × (List (Int × (Option Int))) × (List (Int × (List (Str × (List Int))))))) → Prop) => takeD ((acc11).length : Int) fun n75 => ∃ x78, atI acc11 n75 = some x78 ∧ takeD 4 fun n85 => ∃ x90, atI ([("full" : Str), ("step" : Str), ("wide" : Str), ("step" : Str)]) n85 = some x90 ∧ p_Links_times s57 fun x93 => (x93).length ≤ 100000 ∧ lcD (fun (x103 : Int) (k110 : Option Int → Prop) => jn (fun k115 => if (decide (x103 < x78)) = true then (jn (fun k121 => if (decide (x90 = ("step" : Str))) = true then (k121 true) else (p_Links_kind s57 x103 (fun x127 => False) fun x123 => k121 (decide (x123 = ("full" : Str))))) fun c117 => k115 c117) else (k115 false)) fun c111 => if c111 = true then (k110 (some x103)) else (k110 none)) x93 [] fun acc100 => p_l_seen s57 (some x78) (fun x153 => False) fun x148 => jn (β := PyData) (fun k166 => if (decide (x78 ∈ x93)) = true then (k166 ((eP eS eI) (("There" : Str), x78))) else (if (decide (((x93).length : Int) = 24)) = true then (k166 ((eP eS eI) (("TooMany" : Str), 24))) else (jn (fun k184 => if (!decide (x90 = ("full" : Str))) = true then (k184 (decide (acc100 = ([] : (List Int))))) else (k184 false)) fun c180 => if c180 = true then (k166 ((eP eS eI) (("NoBase" : Str), x78))) else (k166 ((eP eS eN) (("told" : Str), ())))))) fun s165 => p_l_seen s57 (none : (Option Int)) (fun x208 => False) fun x203 => p_l_state x5 fun x217 => p_l_say s57 ((eT4 eS eI (eD iS (eL eI)) eS) (("put" : Str), x78, x217, x90)) fun x227 m228 => ((eA x227) = (eA s165) ∧ AlkOk (eA x227)) ∧ jn (fun k238 => p_l_seen m228 (some x78) (fun x248 => False) fun x243 => (x243 = x148 ∧ dOk ((eL (eT4 eI eS (eO eI) (eD iS (eL eI)))) x243) ∧ PyData.depth ((eL (eT4 eI eS (eO eI) (eD iS (eL eI)))) x243) ≤ 60) ∧ jn (fun k260 => ∃ x262, anyAt s165 0 = some x262 ∧ ∃ x267 : Str, x262 = eS x267 ∧ if (!decide (x267 = ("told" : Str))) = true then (p_l_seen m228 (none : (Option Int)) (fun x279 => False) fun x274 => (x274 = x203 ∧ dOk ((eL (eT4 eI eS (eO eI) (eD iS (eL eI)))) x274) ∧ PyData.depth ((eL (eT4 eI eS (eO eI) (eD iS (eL eI)))) x274) ≤ 60) ∧ k260 false) else (k260 false)) fun c256 => k238 c256) fun c234 => if c234 = true then (P false) else (∃ x291, anyAt s165 0 = some x291 ∧ ∃ x296 : Str, x291 = eS x296 ∧ if (decide (x296 = ("told" : Str))) = true then (jn (β := (Option Int)) (fun k304 => if (!decide (x90 = ("full" : Str))) = true then (∃ m310, mxI acc100 = some m310 ∧ k304 (some m310)) else (k304 (none : (Option Int)))) fun s303 => p_Links_kind m228 x78 (fun x320 => False) fun x316 => p_Links_base m228 x78 (fun x332 => False) fun x327 => (((eL eA) ([eS x316, (eO eI) x327] : List PyData)) = ((eL eA) ([eS x90, (eO eI) s303] : List PyData)) ∧ AlkOk ((eL eA) ([eS x316, (eO eI) x327] : List PyData))) ∧ k58 m228) else (k58 m228))) (rng (4 + n53)) x48 fun s57 => P true
abbrev Se := Int × Str × Option Int × Fs
def seenF (m : Ms) (t : Int) : Se := match lk m t with
  | some r => (t, r.kind, r.base, r.st)
  | none => (t, "", none, [])
def seenL (m : Ms) (but : Option Int) : List Se := ((srt (ks m)).filter fun t => !decide (some t = but)).map (seenF m)
theorem seen_ok {m : Ms} {but : Option Int} {X : Ex → Prop} {P : List Se → Prop} (gl : GL m) (h : P (seenL m but)) : p_l_seen (enc m) but X P := by
  unfold p_l_seen
  have hl := gl.ln
  refine times_ok (by omega) ⟨by rw [srtI_len, ks_len]; omega, ?_⟩
  refine lcD_fm (fun t => if (!decide (some t = but)) = true then some (seenF m t) else none) (fun t ht kk hk => ?_) ?_
  · have hm := srtI_mem.mp ht
    obtain ⟨r, hr⟩ := lk_some hm
    have gt : GT t := gl.tm _ (lk_mem hr)
    split
    · rename_i z
      rw [if_pos z] at hk
      have abs : lk m t = none → False := fun e => by rw [hr] at e; cases e
      refine kind_ok gt abs fun r1 h1 => base_ok gt abs fun r2 h2 => lstate_ok gl gt abs fun r3 h3 => ?_
      rw [hr] at h1 h2 h3
      cases h1; cases h2; cases h3
      unfold seenF at hk
      rw [hr] at hk
      exact hk
    · rename_i z
      rw [if_neg z] at hk
      exact hk
  · have e : (srt (ks m)).filterMap (fun t => if (!decide (some t = but)) = true then some (seenF m t) else none) = seenL m but := by
      unfold seenL
      generalize srt (ks m) = l
      induction l with
      | nil => rfl
      | cons x l ih =>
        rw [List.filterMap_cons, List.filter_cons]
        by_cases z : (!decide (some x = but)) = true
        · simp only [if_pos z, List.map_cons, ih]
        · simp only [if_neg z, ih]
    rw [e]
    exact h
theorem dict_ok {m : Fs} (g : GSt m) : dOk (eD iS (eL eI) m) ∧ (eD iS (eL eI) m).depth ≤ 2 := by
  constructor
  · show ((m.map fun p => (kD (iS p.1), eL eI p.2)).map (·.1)).Nodup ∧ dOkK (m.map fun p => (kD (iS p.1), eL eI p.2))
    constructor
    · have : ((m.map fun p => (kD (iS p.1), eL eI p.2)).map (·.1)) = (ks m).map fun s => PyData.str s := by simp [ks, kD]
      rw [this]
      exact nd_map (fun a b h => by simpa using h) g.nd
    · have : ∀ ns : List Int, dOk (eL eI ns) := by
        intro ns
        show dOkA (ns.map eI)
        induction ns with
        | nil => trivial
        | cons n ns ih => exact ⟨trivial, ih⟩
      have all : ∀ l : Fs, dOkK (l.map fun p => (kD (iS p.1), eL eI p.2)) := by
        intro l
        induction l with
        | nil => trivial
        | cons p l ih => exact ⟨this _, ih⟩
      exact all m
  · show (PyData.dict _).depth ≤ 2
    have : ∀ l : Fs, PyData.depthKv (l.map fun p => (kD (iS p.1), eL eI p.2)) ≤ 1 := by
      intro l
      induction l with
      | nil => simp [PyData.depthKv]
      | cons p l ih =>
        have h1 : (kD (iS p.1)).depth = 0 := rfl
        have h2 : (eL eI p.2).depth ≤ 1 := by
          show (PyData.list _).depth ≤ 1
          simp only [PyData.depth, depA_ints]
          omega
        simp only [List.map_cons, PyData.depthKv]
        omega
    have := this m
    simp only [PyData.depth]
    omega
theorem kind_sh {m : Ms} (gl : GL m) {q : Int × Row} (h : q ∈ m) : wdb q.2.kind = true := by
  rcases gl.kd q h with e | e | e <;> rw [e] <;> decide +kernel
theorem seen_dok {m : Ms} {but : Option Int} (gl : GL m) : dOk ((eL (eT4 eI eS (eO eI) (eD iS (eL eI)))) (seenL m but)) ∧ PyData.depth ((eL (eT4 eI eS (eO eI) (eD iS (eL eI)))) (seenL m but)) ≤ 60 := by
  have one : ∀ x ∈ seenL m but, dOk (eT4 eI eS (eO eI) (eD iS (eL eI)) x) ∧ (eT4 eI eS (eO eI) (eD iS (eL eI)) x).depth ≤ 3 := by
    intro x hx
    obtain ⟨t, ht, rfl⟩ := List.mem_map.mp hx
    obtain ⟨r, hr⟩ := lk_some (srtI_mem.mp (List.mem_filter.mp ht).1)
    have hm := lk_mem hr
    unfold seenF
    rw [hr]
    have d := dict_ok (gl.st _ hm).1
    have w := ShQ.wd (kind_sh gl hm)
    constructor
    · refine ⟨trivial, w.ok, ?_, d.1, trivial⟩
      show dOk (eO eI r.base)
      cases r.base <;> trivial
    · show (PyData.tuple _).depth ≤ 3
      have o : (eO eI r.base).depth = 0 := by cases r.base <;> rfl
      have a1 : (PyData.int t).depth = 0 := rfl
      have a2 : (PyData.str r.kind).depth = 0 := rfl
      have d2 := d.2
      simp only [PyData.depth, PyData.depthAll]
      simp only [PyData.depth] at d2
      omega
  have all : ∀ l : List Se, (∀ x ∈ l, dOk (eT4 eI eS (eO eI) (eD iS (eL eI)) x) ∧ (eT4 eI eS (eO eI) (eD iS (eL eI)) x).depth ≤ 3) → dOkA (l.map (eT4 eI eS (eO eI) (eD iS (eL eI)))) ∧ PyData.depthAll (l.map (eT4 eI eS (eO eI) (eD iS (eL eI)))) ≤ 3 := by
    intro l
    induction l with
    | nil => exact fun _ => ⟨trivial, by simp [PyData.depthAll]⟩
    | cons x l ih =>
      intro h
      obtain ⟨h1, h2⟩ := ih fun y hy => h y (List.mem_cons_of_mem _ hy)
      obtain ⟨h3, h4⟩ := h x List.mem_cons_self
      refine ⟨⟨h3, h1⟩, ?_⟩
      simp only [List.map_cons, PyData.depthAll]
      omega
  obtain ⟨h1, h2⟩ := all _ one
  refine ⟨h1, ?_⟩
  show (PyData.list _).depth ≤ 60
  simp only [PyData.depth]
  omega
theorem seen_put {m : Ms} {t : Int} {st : Fs} {kind : Str} : seenL (stP m t st kind) (some t) = seenL m (some t) := by
  unfold stP
  cases e : dueP m t kind with
  | some x => rfl
  | none =>
    have hn : lk m t = none := by
      unfold dueP at e
      cases e2 : lk m t with
      | none => rfl
      | some r =>
        rw [e2] at e
        simp at e
    unfold seenL putM
    have c : (fun x : Int => !decide (some x = some t)) = fun x => !decide (x = t) := by
      funext x
      simp
    rw [c, pk_keys, hn, if_neg (by decide), srt_filter, srt_filter, List.filter_append]
    have z : ([t] : List Int).filter (fun x => !decide (x = t)) = [] := by simp
    rw [z, List.append_nil]
    refine List.map_congr_left fun x hx => ?_
    have : x ≠ t := by
      have := (List.mem_filter.mp (srtI_mem.mp hx)).2
      simpa using this
    unfold seenF
    rw [lk_pk, if_neg this]
theorem law_plain : p_law (fun b => b = true) := by
  unfold p_law
  refine tk (by decide) fun n2 l2 u2 => names_ok (by omega) fun ns hne hl hnd hg => ⟨by decide, by decide, ?_⟩
  refine lcD_all GT (fun x hx kk hk => ?_) (fun _ z => nomatch z) fun ts gts hlt => ?_
  · have hb := rng_mem hx
    refine ⟨cmul ⟨hb.1, by omega⟩ (by decide), tk (by decide) fun c lc uc => ?_⟩
    obtain ⟨y, hy, e⟩ := atI_ex (xs := ([x, (10 * x), (1000000 - x)] : List Int)) lc uc
    refine ⟨y, e, hk y ?_⟩
    simp only [List.mem_cons, List.not_mem_nil, or_false] at hy
    unfold GT
    omega
  have hlt2 : ts.length = 26 := hlt
  unfold p_Links___init__
  refine tk (by decide) fun n3 l3 u3 => ⟨by omega, ?_⟩
  refine forD_inv (fun _ s => ∃ m, s = enc m ∧ GL m) (n := 0) ⟨[], rfl, GL.nil⟩ (fun i x s kk hx hi hk => ?_) fun s _ => rfl
  obtain ⟨m, rfl, gl⟩ := hi
  have hlm := gl.ln
  refine tk (by omega) fun n4 l4 u4 => ?_
  obtain ⟨t, ht, e4⟩ := atI_ex (xs := ts) l4 u4
  have gt := gts t ht
  refine ⟨t, e4, tk (by decide) fun n5 l5 u5 => ?_⟩
  obtain ⟨kd, hkd, e5⟩ := atI_ex (xs := ([("full" : Str), ("step" : Str), ("wide" : Str), ("step" : Str)])) l5 u5
  have gk : kd = "full" ∨ kd = "step" ∨ kd = "wide" := by
    simp only [List.mem_cons, List.not_mem_nil, or_false] at hkd
    rcases hkd with h | h | h | h
    · exact .inl h
    · exact .inr (.inl h)
    · exact .inr (.inr h)
    · exact .inr (.inl h)
  refine ⟨kd, e5, times_ok (by omega) ⟨by rw [srtI_len, ks_len]; omega, ?_⟩⟩
  refine lcD_filter (aheadF m t kd) (fun o ho kk hk => ?_) ?_
  · obtain ⟨r, hr⟩ := lk_some (srtI_mem.mp ho)
    have go : GT o := gl.tm _ (lk_mem hr)
    unfold jn
    dsimp only
    unfold aheadF isF at hk
    rw [hr] at hk
    by_cases z4 : o < t
    · rw [if_pos (by simpa using z4)]
      by_cases z5 : kd = "step"
      · rw [if_pos (by simpa using z5)]
        simpa [z4, z5] using hk
      · rw [if_neg (by simpa using z5)]
        refine kind_ok go (fun e => by rw [hr] at e; cases e) fun r1 h1 => ?_
        rw [hr] at h1
        cases h1
        simpa [z4, z5] using hk
    · rw [if_neg (by simpa using z4)]
      simpa [z4] using hk
  have ea : (srt (ks m)).filter (aheadF m t kd) = [] ↔ (ks m).filter (aheadF m t kd) = [] := by
    have p : ((srt (ks m)).filter (aheadF m t kd)).Perm ((ks m).filter (aheadF m t kd)) := (srt_perm _).filter _
    exact ⟨fun e => by rw [e] at p; exact p.symm.eq_nil, fun e => by rw [e] at p; exact p.eq_nil⟩
  have em : mxI ((srt (ks m)).filter (aheadF m t kd)) = mxI ((ks m).filter (aheadF m t kd)) := mxI_perm ((srt_perm _).filter _)
  generalize (srt (ks m)).filter (aheadF m t kd) = ah at ea em ⊢
  refine seen_ok gl ?_
  have hin : decide (t ∈ srt (ks m)) = (lk m t).isSome := by
    rw [Bool.eq_iff_iff]
    simp only [decide_eq_true_eq, lk_iff]
    exact srtI_mem
  have h24 : decide (((srt (ks m)).length : Int) = 24) = decide (24 ≤ m.length) := by
    rw [srtI_len, ks_len]
    congr 1
    exact propext ⟨fun h => by omega, fun h => by omega⟩
  have due : ∀ (K : PyData → Prop), K (saidP m t kd) → jn (β := PyData) (fun k => if (decide (t ∈ srt (ks m))) = true then (k ((eP eS eI) (("There" : Str), t))) else (if (decide (((srt (ks m)).length : Int) = 24)) = true then (k ((eP eS eI) (("TooMany" : Str), 24))) else (jn (fun k184 => if (!decide (kd = ("full" : Str))) = true then (k184 (decide (ah = ([] : (List Int))))) else (k184 false)) fun c180 => if c180 = true then (k ((eP eS eI) (("NoBase" : Str), t))) else (k ((eP eS eN) (("told" : Str), ())))))) K := by
    intro k hk
    show if (decide (t ∈ srt (ks m))) = true then _ else _
    rw [hin, h24]
    unfold saidP dueP at hk
    split
    · rename_i z
      rw [if_pos z] at hk
      exact hk
    · rename_i z
      rw [if_neg z] at hk
      split
      · rename_i z2
        rw [if_pos (by simpa using z2)] at hk
        exact hk
      · rename_i z2
        rw [if_neg (by simpa using z2)] at hk
        unfold jn
        by_cases z3 : kd = "full"
        · rw [if_pos z3] at hk
          rw [if_neg (by simp [z3])]
          exact hk
        · rw [if_neg z3] at hk
          rw [if_pos (by simp [z3])]
          by_cases z4 : ah = []
          · rw [if_pos (ea.mp z4)] at hk
            rw [if_pos (by simp [z4])]
            exact hk
          · rw [if_neg (fun q => z4 (ea.mpr q))] at hk
            rw [if_neg (by simp [z4])]
            exact hk
  refine due _ ?_
  refine seen_ok gl (state_ok' (by omega) hg fun st gs _ => ?_)
  refine say_put gl gt gs gk ⟨⟨rfl, saidP_alk gt⟩, ?_⟩
  have g2 := stP_good (st := st) gl gt gs gk
  unfold jn
  refine seen_ok g2 ⟨⟨seen_put, seen_dok g2⟩, ?_⟩
  have fin : ∃ w d, saidP m t kd = eP eS eA (w, d) ∧ (w = "told" ↔ dueP m t kd = none) := by
    unfold saidP
    cases e : dueP m t kd with
    | none => exact ⟨_, _, rfl, by simp⟩
    | some x =>
      have nt : ∀ s : Str, (decide (s = "told")) = false → ¬ s = "told" := fun s h => by simpa using h
      cases x with
      | Wrong w => exact ⟨_, _, rfl, by simp; decide +kernel⟩
      | NoMoment w => exact ⟨_, _, rfl, by simp; decide +kernel⟩
      | There w => exact ⟨_, _, rfl, by simp; decide +kernel⟩
      | TooMany w => exact ⟨_, _, rfl, by simp; decide +kernel⟩
      | NoBase w => exact ⟨_, _, rfl, by simp; decide +kernel⟩
  obtain ⟨w, d, ew, iw⟩ := fin
  have at0 : anyAt (saidP m t kd) 0 = some (eS w) := by rw [ew]; rfl
  refine ⟨_, at0, w, rfl, ?_⟩
  have tail : ∃ x291, anyAt (saidP m t kd) 0 = some x291 ∧ ∃ x296 : Str, x291 = eS x296 ∧ if (decide (x296 = ("told" : Str))) = true then ((if (!decide (kd = ("full" : Str))) = true then (∃ m310, mxI ah = some m310 ∧ (fun s303 => p_Links_kind (enc (stP m t st kd)) t (fun x320 => False) fun x316 => p_Links_base (enc (stP m t st kd)) t (fun x332 => False) fun x327 => (((eL eA) ([eS x316, (eO eI) x327] : List PyData)) = ((eL eA) ([eS kd, (eO eI) s303] : List PyData)) ∧ AlkOk ((eL eA) ([eS x316, (eO eI) x327] : List PyData))) ∧ kk (enc (stP m t st kd))) (some m310)) else ((fun s303 => p_Links_kind (enc (stP m t st kd)) t (fun x320 => False) fun x316 => p_Links_base (enc (stP m t st kd)) t (fun x332 => False) fun x327 => (((eL eA) ([eS x316, (eO eI) x327] : List PyData)) = ((eL eA) ([eS kd, (eO eI) s303] : List PyData)) ∧ AlkOk ((eL eA) ([eS x316, (eO eI) x327] : List PyData))) ∧ kk (enc (stP m t st kd))) (none : (Option Int))))) else (kk (enc (stP m t st kd))) := by
    refine ⟨_, at0, w, rfl, ?_⟩
    have hkk : kk (enc (stP m t st kd)) := hk _ ⟨_, rfl, g2⟩
    split
    · rename_i z
      have hd : dueP m t kd = none := iw.mp (by simpa using z)
      have es : stP m t st kd = putM m t st kd := by unfold stP; rw [hd]
      have er : lk (stP m t st kd) t = some ⟨kd, baseP m t kd, cont st⟩ := by
        rw [es]
        unfold putM
        rw [lk_pk, if_pos rfl]
      have both : p_Links_kind (enc (stP m t st kd)) t (fun x320 => False) fun x316 => p_Links_base (enc (stP m t st kd)) t (fun x332 => False) fun x327 => (((eL eA) ([eS x316, (eO eI) x327] : List PyData)) = ((eL eA) ([eS kd, (eO eI) (baseP m t kd)] : List PyData)) ∧ AlkOk ((eL eA) ([eS x316, (eO eI) x327] : List PyData))) ∧ kk (enc (stP m t st kd)) := by
        have abs : lk (stP m t st kd) t = none → False := fun e => by rw [er] at e; cases e
        refine kind_ok gt abs fun r1 h1 => base_ok gt abs fun r2 h2 => ?_
        rw [er] at h1 h2
        cases h1; cases h2
        refine ⟨⟨rfl, ?_⟩, hkk⟩
        have hm := lk_mem er
        have sh : ShQ 1 34 (eL eA ([eS kd, (eO eI) (baseP m t kd)] : List PyData)) := by
          have := ShQ.list (dp := 0) (bk := 16) (ds := [eS kd, (eO eI) (baseP m t kd)]) (fun d hd => by
            simp only [List.mem_cons, List.not_mem_nil, or_false] at hd
            rcases hd with rfl | rfl
            · exact ShQ.wd (kind_sh g2 hm)
            · refine (ShQ.opt fun n hn => ?_).up (by decide) (by decide)
              obtain ⟨h3, _⟩ := g2.bs _ hm n hn
              obtain ⟨q, hq, rfl⟩ := List.mem_map.mp h3
              exact small (g2.tm q hq))
          exact this
        exact sh.alk (by decide) (by decide)
      by_cases z3 : kd = "full"
      · have eb : baseP m t kd = none := by unfold baseP; rw [if_pos z3]
        rw [if_neg (by simp [z3])]
        rw [eb] at both
        exact both
      · rw [if_pos (by simp [z3])]
        have hb : baseP m t kd = mxI ah := by
          unfold baseP
          rw [if_neg z3, em]
        have ha : ah ≠ [] := fun q => by
          unfold dueP at hd
          rw [if_neg z3, if_pos (ea.mp q)] at hd
          split at hd
          · cases hd
          · split at hd <;> cases hd
        obtain ⟨mx, hmx⟩ := mxI_some ha
        refine ⟨mx, hmx, ?_⟩
        rw [hb, hmx] at both
        exact both
    · exact hkk
  by_cases zt : w = "told"
  · rw [if_neg (by simp [zt])]
    show if false = true then _ else _
    rw [if_neg (by decide)]
    exact tail
  · rw [if_pos (by simp [zt])]
    have hd : dueP m t kd ≠ none := fun q => zt (iw.mpr q)
    have es : stP m t st kd = m := by
      unfold stP
      cases e : dueP m t kd with
      | none => exact absurd e hd
      | some x => rfl
    refine seen_ok g2 ⟨⟨by rw [es], seen_dok g2⟩, ?_⟩
    show if false = true then _ else _
    rw [if_neg (by decide)]
    exact tail
abbrev t_law_16 (K : PySem.W.Frag) : TS := (tIfS (tAnd (tTest (tOp (uNe K) (tVar 7) (tC (.str "full")))) (tTest (tOp (uEq K) (tVar 9) (tLst tNil)))) (tAsg (tTup (tCons (tC (.str "NoBase")) (tCons (tVar 6) tNil))) (gName 11)) tNext)
abbrev t_law_14 (K : PySem.W.Frag) : TS := (tIfS (tTest (tOp (uEq K) (tCB (uLen K) (tCons (tVar 8) tNil)) (tC (.int 24)))) (tAsg (tTup (tCons (tC (.str "TooMany")) (tCons (tC (.int 24)) tNil))) (gName 11)) (t_law_16 K))
abbrev t_law_27 (K : PySem.W.Frag) : TS := (tIfS (tNot (tB (tCall (sp_l_alike K) [] E0 (tCons (tLst (tCons (tMethW W0 (He.ga K "Links") "kind" (sp_Links_kind K) [] (tVar 4) (tCons (tVar 6) tNil)) (tCons (tMethW W0 (He.ga K "Links") "base" (sp_Links_base K) [] (tVar 4) (tCons (tVar 6) tNil)) tNil))) (tCons (tLst (tCons (tVar 7) (tCons (tVar 14) tNil))) tNil))))) (tRet (tC (.bl false))) tNext)
abbrev t_law_25 (K : PySem.W.Frag) : TS := (tSeq (tIfS (tTest (tOp (uNe K) (tVar 7) (tC (.str "full")))) (tAsg (tCB (rMax K) (tCons (tVar 9) tNil)) (gName 14)) tNext)
  (t_law_27 K))
abbrev t_law_24 (K : PySem.W.Frag) : TS := (tSeq (tAsg (tC .non) (gName 14))
  (t_law_25 K))
abbrev t_law_23 (K : PySem.W.Frag) : TS := (tIfS (tTest (tOp (uEq K) (tOp (uIx K) (tVar 11) (tC (.int 0))) (tC (.str "told")))) (t_law_24 K) tNext)
abbrev t_law_21 (K : PySem.W.Frag) : TS := (tSeq (tIfS (tOr (tTest (tOp (uNeQ K) (tCallW W0 (sp_l_seen K) [] (tCons (tVar 4) (tCons (tVar 6) tNil))) (tVar 10))) (tAnd (tTest (tOp (uNe K) (tOp (uIx K) (tVar 11) (tC (.int 0))) (tC (.str "told")))) (tTest (tOp (uNeQ K) (tCallW W0 (sp_l_seen K) [] (tCons (tVar 4) (tCons (tC .non) tNil))) (tVar 12))))) (tRet (tC (.bl false))) tNext)
  (t_law_23 K))
abbrev t_law_19 (K : PySem.W.Frag) : TS := (tSeq (tIfS (tNot (tB (tCall (sp_l_alike K) [] E0 (tCons (tCall (sp_l_say K) [] E0 (tCons (tVar 4) (tCons (tTup (tCons (tC (.str "put")) (tCons (tVar 6) (tCons (tCall (sp_l_state K) [] E0 (tCons (tVar 1) (tCons (tVar 2) tNil))) (tCons (tVar 7) tNil))))) tNil))) (tCons (tVar 11) tNil))))) (tRet (tC (.bl false))) tNext)
  (t_law_21 K))
abbrev t_law_18 (K : PySem.W.Frag) : TS := (tSeq (tAsg (tCallW W0 (sp_l_seen K) [] (tCons (tVar 4) (tCons (tC .non) tNil))) (gName 12))
  (t_law_19 K))
abbrev t_law_12 (K : PySem.W.Frag) : TS := (tSeq (tIfS (tTest (tOp (uIn K) (tVar 6) (tVar 8))) (tAsg (tTup (tCons (tC (.str "There")) (tCons (tVar 6) tNil))) (gName 11)) (t_law_14 K))
  (t_law_18 K))
abbrev t_law_11 (K : PySem.W.Frag) : TS := (tSeq (tAsg (tTup (tCons (tC (.str "told")) (tCons (tC .non) tNil))) (gName 11))
  (t_law_12 K))
abbrev t_law_10 (K : PySem.W.Frag) : TS := (tSeq (tAsg (tCallW W0 (sp_l_seen K) [] (tCons (tVar 4) (tCons (tVar 6) tNil))) (gName 10))
  (t_law_11 K))
abbrev t_law_9 (K : PySem.W.Frag) : TS := (tSeq (tAsg (tLc (iList K (tVar 8)) (gName 15) (tAnd (tTest (tOp uLt (tVar 15) (tVar 6))) (tOr (tTest (tOp (uEq K) (tVar 7) (tC (.str "step")))) (tTest (tOp (uEq K) (tMethW W0 (He.ga K "Links") "kind" (sp_Links_kind K) [] (tVar 4) (tCons (tVar 15) tNil)) (tC (.str "full")))))) (tVar 15) [15]) (gName 9))
  (t_law_10 K))
abbrev t_law_8 (K : PySem.W.Frag) : TS := (tSeq (tAsg (tMethW W0 (He.ga K "Links") "times" (sp_Links_times K) [] (tVar 4) tNil) (gName 8))
  (t_law_9 K))
abbrev t_law_7 (K : PySem.W.Frag) : TS := (tSeq (tAsg (tOp (uIx K) (tLst (tCons (tC (.str "full")) (tCons (tC (.str "step")) (tCons (tC (.str "wide")) (tCons (tC (.str "step")) tNil))))) (tCall (sp_l_take K) [] E0 (tCons (tVar 1) (tCons (tC (.int 4)) tNil)))) (gName 7))
  (t_law_8 K))
abbrev t_law_6 (K : PySem.W.Frag) : TS := (tSeq (tAsg (tOp (uIx K) (tVar 3) (tCall (sp_l_take K) [] E0 (tCons (tVar 1) (tCons (tCB (uLen K) (tCons (tVar 3) tNil)) tNil)))) (gName 6))
  (t_law_7 K))
abbrev t_law_5 (K : PySem.W.Frag) : TS := (tSeq (tFor (iRng1 (tCons (tOp (uAdd K) (tC (.int 4)) (tCall (sp_l_take K) [] E0 (tCons (tVar 1) (tCons (tC (.int 23)) tNil)))) tNil)) (gName 5) (t_law_6 K))
  (tRet (tC (.bl true))))
abbrev t_law_4 (K : PySem.W.Frag) : TS := (tSeq (tAsg (tMakeW W0 (He.ga K "Links") (sp_Links___init__ K) [] tNil) (gName 4))
  (t_law_5 K))
abbrev t_law_3 (K : PySem.W.Frag) : TS := (tSeq (tAsg (tLc (iRng1 (tCons (tC (.int 26)) tNil)) (gName 13) tYes (tOp (uIx K) (tLst (tCons (tVar 13) (tCons (tOp uMul (tC (.int 10)) (tVar 13)) (tCons (tOp uSub (tOp uPow (tC (.int 10)) (tC (.int 6))) (tVar 13)) tNil)))) (tCall (sp_l_take K) [] E0 (tCons (tVar 1) (tCons (tC (.int 3)) tNil)))) [13]) (gName 3))
  (t_law_4 K))
abbrev t_law_2 (K : PySem.W.Frag) : TS := (tSeq (tAsg (tCall (sp_l_names K) [] E0 (tCons (tVar 1) (tCons (tOp (uAdd K) (tC (.int 1)) (tCall (sp_l_take K) [] E0 (tCons (tVar 1) (tCons (tC (.int 4)) tNil)))) tNil))) (gName 2))
  (t_law_3 K))
abbrev t_law_1 (K : PySem.W.Frag) : TS := (tSeq (tAsg (tCall (sp_l_bag K) [] E0 (tCons (tVar 0) tNil)) (gName 1))
  (t_law_2 K))
abbrev t_law (K : PySem.W.Frag) : TS := (t_law_1 K)
theorem pure_law {K : PySem.W.Frag} (T : TxC K) (vs : List V) (H : Hp) (Q : VK) (E : XK) (h : sp_law K vs H Q E) : t_law K { nx := fun _ H' => Q .non H', rt := Q } (L2.start ["_law_script", "_law_bag_here", "_law_names_here", "_law_left", "_law_here", "_law_turn", "_law_time", "_law_way_of", "_law_there", "_law_ahead_here", "_law_seen_here", "_law_due_here", "_law_was", "_law_k", "_law_base", "_law_one"] vs) H := by
  obtain ⟨sc, sn, rfl, hS, hl, k⟩ := h
  have hf := law_plain
  show t_law K _ [some (V.ref sc), none, none, none, none, none, none, none, none, none, none, none, none, none, none, none] H
  refine g_seq (g_asg (g_call (g_cons (g_var rfl (g_nil (u_bag (M.start hS) (fun H S => S.gotR 0 rfl) hl fun bag H1 S1 => ?_))))))
  generalize [rdL K sc (sn.map V.int)] = Rs at S1
  refine g_nx (g_seq (g_asg (g_call (g_cons (g_var rfl (g_cons (g_op (g_c (g_call (g_cons (g_var rfl (g_cons (g_c (g_nil ?_))))))))))))))
  obtain ⟨h1, hf⟩ := hf
  refine u_take (S1.at 0 rfl) h1 fun n2 H4 n2l n2u (S3 : M (bagR bag :: Rs) H4) => ?_
  replace hf := hf n2 n2l n2u
  refine v_add (g_nil (⟨_, _, _, _, rfl, (M.at S3 0 rfl), hf, fun x5 u8 H7 hf (S6 : M (da K u8 ((eL eS) x5) :: bagR bag :: Rs) H7) => ?_⟩))
  refine g_nx ?_
  obtain ⟨h10, hf⟩ := hf
  refine g_seq (g_asg (g_lc (g_iRng1 (g_cons (g_c (g_nil (v_itR h10 ?_)))))))
  refine lc_rng (K := K) (e' := eI) hf S6 (fun x14 acc11 E12 H20 kk13 N15 hl16 S19 hf hp17 hn18 => ?_) (fun E12 acc11 H38 hf S37 => ?_)
  ·
    obtain ⟨h22, hf⟩ := hf
    refine g_name (g_wipe rfl (g_yes (v_ifT (g_op (g_lst (g_cons (g_var rfl (g_cons (g_op (g_c (g_var rfl (v_mul h22 (g_cons (g_op (g_op (g_c (g_c (v_powc (n := 1000000) (by decide) (by decide) (g_var rfl (v_sub (g_nil (v_lsto (ds := ([x14, (10 * x14), (1000000 - x14)]).map eI) S19 (EnF.consA (EnF.all fun _ => .int _) (EnF.consA (EnF.all fun _ => .int _) (EnF.consA (EnF.all fun _ => .int _) EnF.nilA))) (len_ok rfl) fun p23 H25 (S24 : M (acR K p23 (([x14, (10 * x14), (1000000 - x14)]).map eI) :: acR K E12 (acc11.map eI) :: da K u8 ((eL eS) x5) :: bagR bag :: Rs) H25) => ?_))))))))))))))))))))))
    refine g_call (g_cons (g_var rfl (g_cons (g_c (g_nil ?_)))))
    obtain ⟨h27, hf⟩ := hf
    refine u_take (S24.at 3 rfl) h27 fun n28 H30 n28l n28u (S29 : M (bagR bag :: acR K p23 (([x14, (10 * x14), (1000000 - x14)]).map eI) :: acR K E12 (acc11.map eI) :: da K u8 ((eL eS) x5) :: Rs) H30) => ?_
    replace hf := hf n28 n28l n28u
    have S31 : M (da K (V.ref p23) ((eL eI) ([x14, (10 * x14), (1000000 - x14)])) :: bagR bag :: acR K E12 (acc11.map eI) :: da K u8 ((eL eS) x5) :: Rs) H30 := acR_fixL (S29.at 1 rfl)
    obtain ⟨x33, h34, hf⟩ := hf
    refine v_ixN flI (M.gotA S31 0 rfl) h34 (acR_put S31 2 rfl (EnF.all fun _ => .int _) hl16 fun H36 (S35 : M (acR K E12 (acc11.map eI ++ [eI x33]) :: da K (V.ref p23) ((eL eI) ([x14, (10 * x14), (1000000 - x14)])) :: bagR bag :: da K u8 ((eL eS) x5) :: Rs) H36) => ?_)
    exact hp17 _ _ hf (M.sub (.cons 0 rfl (.cons 2 rfl (.cons 1 rfl (.tl (.refl _))))) S35)
  have S40 : M (da K (V.ref E12) ((eL eI) acc11) :: da K u8 ((eL eS) x5) :: bagR bag :: Rs) H38 := acR_fixL S37
  refine g_nx ?_
  refine g_seq (g_asg (g_make (g_nil (v_make S40 fun a42 dx43 H45 (S44 : M (pt a42 (.ins (He.ga K "Links") dx43 []) :: pt dx43 (.own a42) :: da K (V.ref E12) ((eL eI) acc11) :: da K u8 ((eL eS) x5) :: bagR bag :: Rs) H45) => ?_))))
  refine ⟨_, _, _, _, rfl, S44, hf, fun x48 H50 hf (S49 : M (R_Links K a42 x48 :: da K (V.ref E12) ((eL eI) acc11) :: da K u8 ((eL eS) x5) :: bagR bag :: Rs) H50) => ⟨rfl, ?_⟩⟩
  refine g_nx ?_
  refine g_seq (g_for (g_iRng1 (g_cons (g_op (g_c (g_call (g_cons (g_var rfl (g_cons (g_c (g_nil ?_)))))))))))
  obtain ⟨h52, hf⟩ := hf
  refine u_take (S49.at 3 rfl) h52 fun n53 H55 n53l n53u (S54 : M (bagR bag :: R_Links K a42 x48 :: da K (V.ref E12) ((eL eI) acc11) :: da K u8 ((eL eS) x5) :: Rs) H55) => ?_
  replace hf := hf n53 n53l n53u
  obtain ⟨h56, hf⟩ := hf
  refine v_add (g_nil (v_itR h56 ?_))
  refine for_rng (β := ((List (Int × Str)) × (List (Int × (Option Int))) × (List (Int × (List (Str × (List Int))))))) hf (fun (s57 : ((List (Int × Str)) × (List (Int × (Option Int))) × (List (Int × (List (Str × (List Int))))))) σ H' => ∃ (o62 : Option V) (o63 : Option V) (o64 : Option V) (o65 : Option V) (o66 : Option V) (o67 : Option V) (o68 : Option V) (o69 : Option V) (o70 : Option V) (o71 : Option V), σ = [some (V.ref sc), some (V.ref bag), some u8, some (V.ref E12), some (V.ref a42), o62, o63, o64, o65, o66, o67, o68, o69, none, o70, o71] ∧ M (R_Links K a42 s57 :: bagR bag :: da K (V.ref E12) ((eL eI) acc11) :: da K u8 ((eL eS) x5) :: Rs) H') ⟨_, _, _, _, _, _, _, _, _, _, rfl, (M.sub (.cons 1 rfl (.cons 0 rfl (.cons 0 rfl (.cons 0 rfl (.refl _))))) S54)⟩ ?_ ?_
  ·
    rintro x60 s57 _ H73 kk59 ⟨o62, o63, o64, o65, o66, o67, o68, o69, o70, o71, rfl, S72⟩ hf
    refine g_name (g_seq (g_asg (g_op (g_var rfl (g_call (g_cons (g_var rfl (g_cons (g_cb (g_cons (g_var rfl (g_nil (v_lenN (M.gotA S72 2 rfl) (g_nil ?_))))))))))))))
    obtain ⟨h74, hf⟩ := hf
    refine u_take (S72.at 1 rfl) h74 fun n75 H77 n75l n75u (S76 : M (bagR bag :: R_Links K a42 s57 :: da K (V.ref E12) ((eL eI) acc11) :: da K u8 ((eL eS) x5) :: Rs) H77) => ?_
    replace hf := hf n75 n75l n75u
    obtain ⟨x78, h79, hf⟩ := hf
    refine v_ixN flI (M.gotA S76 2 rfl) h79 (g_nx ?_)
    refine g_seq (g_asg (g_op (g_lst (g_cons (g_c (g_cons (g_c (g_cons (g_c (g_cons (g_c (g_nil (v_lsto (ds := ([("full" : Str), ("step" : Str), ("wide" : Str), ("step" : Str)]).map eS) S76 (EnF.consA (EnF.all fun _ => .str _) (EnF.consA (EnF.all fun _ => .str _) (EnF.consA (EnF.all fun _ => .str _) (EnF.consA (EnF.all fun _ => .str _) EnF.nilA)))) (len_ok rfl) fun p80 H82 (S81 : M (acR K p80 (([("full" : Str), ("step" : Str), ("wide" : Str), ("step" : Str)]).map eS) :: bagR bag :: R_Links K a42 s57 :: da K (V.ref E12) ((eL eI) acc11) :: da K u8 ((eL eS) x5) :: Rs) H82) => ?_)))))))))))))
    refine g_call (g_cons (g_var rfl (g_cons (g_c (g_nil ?_)))))
    obtain ⟨h84, hf⟩ := hf
    refine u_take (S81.at 1 rfl) h84 fun n85 H87 n85l n85u (S86 : M (bagR bag :: acR K p80 (([("full" : Str), ("step" : Str), ("wide" : Str), ("step" : Str)]).map eS) :: R_Links K a42 s57 :: da K (V.ref E12) ((eL eI) acc11) :: da K u8 ((eL eS) x5) :: Rs) H87) => ?_
    replace hf := hf n85 n85l n85u
    have S88 : M (da K (V.ref p80) ((eL eS) ([("full" : Str), ("step" : Str), ("wide" : Str), ("step" : Str)])) :: bagR bag :: R_Links K a42 s57 :: da K (V.ref E12) ((eL eI) acc11) :: da K u8 ((eL eS) x5) :: Rs) H87 := acR_fixL (S86.at 1 rfl)
    obtain ⟨x90, h91, hf⟩ := hf
    refine v_ixN flS (M.gotA S88 0 rfl) h91 (g_nx ?_)
    have S92 : M (bagR bag :: R_Links K a42 s57 :: da K (V.ref E12) ((eL eI) acc11) :: da K u8 ((eL eS) x5) :: Rs) H87 := (M.drp S88 0)
    refine g_seq (g_asg (g_meth (g_var rfl (v_R_Links S92 1 rfl (fun _ _ _ _ => rfl) (g_nil (⟨_, _, _, _, rfl, (M.at S92 1 rfl), hf, fun x93 u96 H95 hf (S94 : M (acR K u96 (x93.map eI) :: R_Links K a42 s57 :: bagR bag :: da K (V.ref E12) ((eL eI) acc11) :: da K u8 ((eL eS) x5) :: Rs) H95) => ?_⟩))))))
    have S98 : M (da K (V.ref u96) ((eL eI) x93) :: R_Links K a42 s57 :: bagR bag :: da K (V.ref E12) ((eL eI) acc11) :: da K u8 ((eL eS) x5) :: Rs) H95 := acR_fixL S94
    refine g_nx ?_
    refine g_seq (g_asg (g_lc (g_iList (g_var rfl ?_))))
    refine lc_N flI (K := K) (e' := eI) hf S98 (fun _ S => S.gotA 0 rfl) (fun x103 acc100 E101 H109 kk102 N104 hl105 S108 hf hp106 hn107 => ?_) (fun E101 acc100 H141 hf S140 => ?_)
    ·
      refine g_name (g_wipe rfl ?_)
      refine tt_cut hf (fun H => M (acR K E101 (acc100.map eI) :: da K (V.ref u96) ((eL eI) x93) :: R_Links K a42 s57 :: bagR bag :: da K (V.ref E12) ((eL eI) acc11) :: da K u8 ((eL eS) x5) :: Rs) H) (fun kk112 P113 hP114 hf => ?_) ?_
      ·
        refine g_and (g_test (g_op (g_var rfl (g_var rfl (v_lt (g_bl (v_iff hf (fun _ hf => ?_) (fun _ hf => ?_))))))))
        ·
          refine tt_cut hf (fun H => M (acR K E101 (acc100.map eI) :: da K (V.ref u96) ((eL eI) x93) :: R_Links K a42 s57 :: bagR bag :: da K (V.ref E12) ((eL eI) acc11) :: da K u8 ((eL eS) x5) :: Rs) H) (fun kk118 P119 hP120 hf => ?_) ?_
          ·
            refine g_or (g_test (g_op (g_var rfl (g_c (v_eqS (g_bl (v_iff hf (fun _ hf => ?_) (fun _ hf => ?_))))))))
            ·
              exact hP120 _ _ hf (M.sub (.cons 0 rfl (.cons 0 rfl (.cons 0 rfl (.cons 0 rfl (.cons 0 rfl (.cons 0 rfl (.refl _))))))) S108)
            ·
              refine g_test (g_op (g_meth (g_var rfl (v_R_Links S108 2 rfl (fun _ _ _ _ => rfl) (g_cons (g_var rfl (g_nil (⟨_, _, _, _, _, _, rfl, (M.at S108 2 rfl), hf, fun x127 d128 v129 H131 hf (S130 : M (pt d128 (.xd [(x127.fld, v129)]) :: da K v129 x127.val :: R_Links K a42 s57 :: acR K E101 (acc100.map eI) :: da K (V.ref u96) ((eL eI) x93) :: bagR bag :: da K (V.ref E12) ((eL eI) acc11) :: da K u8 ((eL eS) x5) :: Rs) H131) => ?_, fun x123 H125 hf (S124 : M (R_Links K a42 s57 :: acR K E101 (acc100.map eI) :: da K (V.ref u96) ((eL eI) x93) :: bagR bag :: da K (V.ref E12) ((eL eI) acc11) :: da K u8 ((eL eS) x5) :: Rs) H125) => ?_⟩))))))))
              ·
                exact hf.elim
              refine g_c (v_eqS (g_bl ?_))
              exact hP120 _ _ hf (M.sub (.cons 1 rfl (.cons 1 rfl (.cons 0 rfl (.cons 0 rfl (.cons 0 rfl (.cons 0 rfl (.refl _))))))) S124)
          intro c117 H135 hf S134
          exact hP114 _ _ hf (M.sub (.cons 0 rfl (.cons 0 rfl (.cons 0 rfl (.cons 0 rfl (.cons 0 rfl (.cons 0 rfl (.refl _))))))) S134)
        ·
          exact hP114 _ _ hf (M.sub (.cons 0 rfl (.cons 0 rfl (.cons 0 rfl (.cons 0 rfl (.cons 0 rfl (.cons 0 rfl (.refl _))))))) S108)
      intro c111 H137 hf S136
      refine v_iff hf (fun _ hf => ?_) (fun _ hf => ?_)
      ·
        refine g_var rfl (acR_put S136 0 rfl (EnF.all fun _ => .int _) hl105 fun H139 (S138 : M (acR K E101 (acc100.map eI ++ [eI x103]) :: da K (V.ref u96) ((eL eI) x93) :: R_Links K a42 s57 :: bagR bag :: da K (V.ref E12) ((eL eI) acc11) :: da K u8 ((eL eS) x5) :: Rs) H139) => ?_)
        exact hp106 _ _ hf (M.sub (.cons 0 rfl (.cons 0 rfl (.cons 0 rfl (.cons 0 rfl (.cons 0 rfl (.cons 0 rfl (.refl _))))))) S138)
      ·
        exact hn107 _ hf (M.sub (.cons 0 rfl (.cons 0 rfl (.cons 0 rfl (.cons 0 rfl (.cons 0 rfl (.cons 0 rfl (.refl _))))))) S136)
    have S143 : M (da K (V.ref E101) ((eL eI) acc100) :: da K (V.ref u96) ((eL eI) x93) :: R_Links K a42 s57 :: bagR bag :: da K (V.ref E12) ((eL eI) acc11) :: da K u8 ((eL eS) x5) :: Rs) H141 := acR_fixL S140
    refine g_nx ?_
    refine g_seq (g_asg (g_callW (g_cons (g_var rfl (g_cons (g_var rfl (g_nil ?_)))))))
    have S145 : M (da K (V.int x78) ((eO eI) (some x78)) :: da K (V.ref E101) ((eL eI) acc100) :: da K (V.ref u96) ((eL eI) x93) :: R_Links K a42 s57 :: bagR bag :: da K (V.ref E12) ((eL eI) acc11) :: da K u8 ((eL eS) x5) :: Rs) H141 := M.addA S143 (EnF.all fun _ => .int _)
    refine ⟨_, _, _, _, _, _, _, rfl, (M.at (M.addA S145 (EnF.at 0 rfl)) 4 rfl), hf, fun x153 d154 v155 H157 hf (S156 : M (pt d154 (.xd [(x153.fld, v155)]) :: da K v155 x153.val :: R_Links K a42 s57 :: da K (V.int x78) ((eO eI) (some x78)) :: da K (V.ref E101) ((eL eI) acc100) :: da K (V.ref u96) ((eL eI) x93) :: bagR bag :: da K (V.ref E12) ((eL eI) acc11) :: da K u8 ((eL eS) x5) :: Rs) H157) => ?_, fun x148 u151 H150 hf (S149 : M (da K u151 ((eL (eT4 eI eS (eO eI) (eD iS (eL eI)))) x148) :: R_Links K a42 s57 :: da K (V.int x78) ((eO eI) (some x78)) :: da K (V.ref E101) ((eL eI) acc100) :: da K (V.ref u96) ((eL eI) x93) :: bagR bag :: da K (V.ref E12) ((eL eI) acc11) :: da K u8 ((eL eS) x5) :: Rs) H150) => ?_⟩
    ·
      exact hf.elim
    refine g_nx ?_
    have S160 : M (da K u151 ((eL (eT4 eI eS (eO eI) (eD iS (eL eI)))) x148) :: R_Links K a42 s57 :: da K (V.ref E101) ((eL eI) acc100) :: da K (V.ref u96) ((eL eI) x93) :: bagR bag :: da K (V.ref E12) ((eL eI) acc11) :: da K u8 ((eL eS) x5) :: Rs) H150 := (M.drp S149 2)
    refine g_seq (g_asg (g_tup (g_cons (g_c (g_cons (g_c (g_nil (v_tupq S160 (EnF.consA (EnF.all fun _ => .str _) (EnF.consA (EnF.all fun _ => .non) EnF.nilA)) (len_ok rfl) fun p161 H163 (S162 : M (da K (V.ref p161) ((eP eS eN) (("told" : Str), ())) :: da K u151 ((eL (eT4 eI eS (eO eI) (eD iS (eL eI)))) x148) :: R_Links K a42 s57 :: da K (V.ref E101) ((eL eI) acc100) :: da K (V.ref u96) ((eL eI) x93) :: bagR bag :: da K (V.ref E12) ((eL eI) acc11) :: da K u8 ((eL eS) x5) :: Rs) H163) => ?_))))))))
    refine g_nx ?_
    refine jn_cut (β := PyData) hf (fun (s165 : PyData) σ H' => ∃ (u170 : V), σ = [some (V.ref sc), some (V.ref bag), some u8, some (V.ref E12), some (V.ref a42), some (V.int x60), some (V.int x78), some (V.str x90), some (V.ref u96), some (V.ref E101), some u151, some u170, o69, none, o70, o71] ∧ M (da K u170 (eA s165) :: da K u151 ((eL (eT4 eI eS (eO eI) (eD iS (eL eI)))) x148) :: R_Links K a42 s57 :: da K (V.ref E101) ((eL eI) acc100) :: da K (V.ref u96) ((eL eI) x93) :: bagR bag :: da K (V.ref E12) ((eL eI) acc11) :: da K u8 ((eL eS) x5) :: Rs) H') (fun kk167 N168 hN169 hf => ?_) ?_
    ·
      refine g_if (g_test (g_op (g_var rfl (g_var rfl (v_inLI (M.gotA S162 4 rfl) (g_bl (v_iff hf (fun _ hf => ?_) (fun _ hf => ?_))))))))
      ·
        refine g_asg (g_tup (g_cons (g_c (g_cons (g_var rfl (g_nil (v_tupq S162 (EnF.consA (EnF.all fun _ => .str _) (EnF.consA (EnF.all fun _ => .int _) EnF.nilA)) (len_ok rfl) fun p172 H174 (S173 : M (da K (V.ref p172) ((eP eS eI) (("There" : Str), x78)) :: da K (V.ref p161) ((eP eS eN) (("told" : Str), ())) :: da K u151 ((eL (eT4 eI eS (eO eI) (eD iS (eL eI)))) x148) :: R_Links K a42 s57 :: da K (V.ref E101) ((eL eI) acc100) :: da K (V.ref u96) ((eL eI) x93) :: bagR bag :: da K (V.ref E12) ((eL eI) acc11) :: da K u8 ((eL eS) x5) :: Rs) H174) => ?_)))))))
        exact hN169 _ _ _ hf ⟨_, rfl, (M.sub (.cons 0 rfl (.cons 1 rfl (.cons 1 rfl (.cons 1 rfl (.cons 1 rfl (.cons 1 rfl (.cons 1 rfl (.cons 1 rfl (.tl (.refl _)))))))))) S173)⟩
      ·
        refine g_if (g_test (g_op (g_cb (g_cons (g_var rfl (g_nil (v_lenN (M.gotA S162 4 rfl) (g_c (v_eqI (g_bl (v_iff hf (fun _ hf => ?_) (fun _ hf => ?_))))))))))))
        ·
          refine g_asg (g_tup (g_cons (g_c (g_cons (g_c (g_nil (v_tupq S162 (EnF.consA (EnF.all fun _ => .str _) (EnF.consA (EnF.all fun _ => .int _) EnF.nilA)) (len_ok rfl) fun p176 H178 (S177 : M (da K (V.ref p176) ((eP eS eI) (("TooMany" : Str), 24)) :: da K (V.ref p161) ((eP eS eN) (("told" : Str), ())) :: da K u151 ((eL (eT4 eI eS (eO eI) (eD iS (eL eI)))) x148) :: R_Links K a42 s57 :: da K (V.ref E101) ((eL eI) acc100) :: da K (V.ref u96) ((eL eI) x93) :: bagR bag :: da K (V.ref E12) ((eL eI) acc11) :: da K u8 ((eL eS) x5) :: Rs) H178) => ?_)))))))
          exact hN169 _ _ _ hf ⟨_, rfl, (M.sub (.cons 0 rfl (.cons 1 rfl (.cons 1 rfl (.cons 1 rfl (.cons 1 rfl (.cons 1 rfl (.cons 1 rfl (.cons 1 rfl (.tl (.refl _)))))))))) S177)⟩
        ·
          refine g_if ?_
          refine tt_cut hf (fun H => M (da K (V.ref p161) ((eP eS eN) (("told" : Str), ())) :: da K u151 ((eL (eT4 eI eS (eO eI) (eD iS (eL eI)))) x148) :: R_Links K a42 s57 :: da K (V.ref E101) ((eL eI) acc100) :: da K (V.ref u96) ((eL eI) x93) :: bagR bag :: da K (V.ref E12) ((eL eI) acc11) :: da K u8 ((eL eS) x5) :: Rs) H) (fun kk181 P182 hP183 hf => ?_) ?_
          ·
            refine g_and (g_test (g_op (g_var rfl (g_c (v_neS (g_bl (v_iff hf (fun _ hf => ?_) (fun _ hf => ?_))))))))
            ·
              refine g_test (g_op (g_var rfl (g_lst (g_nil (v_lsto (ds := ([] : (List Int)).map eI) S162 EnF.nilA (len_ok rfl) fun p186 H188 (S187 : M (acR K p186 (([] : (List Int)).map eI) :: da K (V.ref p161) ((eP eS eN) (("told" : Str), ())) :: da K u151 ((eL (eT4 eI eS (eO eI) (eD iS (eL eI)))) x148) :: R_Links K a42 s57 :: da K (V.ref E101) ((eL eI) acc100) :: da K (V.ref u96) ((eL eI) x93) :: bagR bag :: da K (V.ref E12) ((eL eI) acc11) :: da K u8 ((eL eS) x5) :: Rs) H188) => ?_)))))
              have S190 : M (da K (V.ref p186) ((eL eI) ([] : (List Int))) :: da K (V.ref p161) ((eP eS eN) (("told" : Str), ())) :: da K u151 ((eL (eT4 eI eS (eO eI) (eD iS (eL eI)))) x148) :: R_Links K a42 s57 :: da K (V.ref E101) ((eL eI) acc100) :: da K (V.ref u96) ((eL eI) x93) :: bagR bag :: da K (V.ref E12) ((eL eI) acc11) :: da K u8 ((eL eS) x5) :: Rs) H188 := acR_fixL S187
              refine v_eqLI (M.gotA S190 4 rfl) (M.gotA S190 0 rfl) (g_bl ?_)
              exact hP183 _ _ hf (M.sub (.cons 1 rfl (.cons 1 rfl (.cons 1 rfl (.cons 1 rfl (.cons 1 rfl (.cons 1 rfl (.cons 1 rfl (.cons 1 rfl (.tl (.refl _)))))))))) S190)
            ·
              exact hP183 _ _ hf (M.sub (.cons 0 rfl (.cons 0 rfl (.cons 0 rfl (.cons 0 rfl (.cons 0 rfl (.cons 0 rfl (.cons 0 rfl (.cons 0 rfl (.refl _))))))))) S162)
          intro c180 H193 hf S192
          refine v_iff hf (fun _ hf => ?_) (fun _ hf => ?_)
          ·
            refine g_asg (g_tup (g_cons (g_c (g_cons (g_var rfl (g_nil (v_tupq S192 (EnF.consA (EnF.all fun _ => .str _) (EnF.consA (EnF.all fun _ => .int _) EnF.nilA)) (len_ok rfl) fun p194 H196 (S195 : M (da K (V.ref p194) ((eP eS eI) (("NoBase" : Str), x78)) :: da K (V.ref p161) ((eP eS eN) (("told" : Str), ())) :: da K u151 ((eL (eT4 eI eS (eO eI) (eD iS (eL eI)))) x148) :: R_Links K a42 s57 :: da K (V.ref E101) ((eL eI) acc100) :: da K (V.ref u96) ((eL eI) x93) :: bagR bag :: da K (V.ref E12) ((eL eI) acc11) :: da K u8 ((eL eS) x5) :: Rs) H196) => ?_)))))))
            exact hN169 _ _ _ hf ⟨_, rfl, (M.sub (.cons 0 rfl (.cons 1 rfl (.cons 1 rfl (.cons 1 rfl (.cons 1 rfl (.cons 1 rfl (.cons 1 rfl (.cons 1 rfl (.tl (.refl _)))))))))) S195)⟩
          ·
            refine g_next ?_
            exact hN169 _ _ _ hf ⟨_, rfl, (M.sub (.cons 0 rfl (.cons 0 rfl (.cons 0 rfl (.cons 0 rfl (.cons 0 rfl (.cons 0 rfl (.cons 0 rfl (.cons 0 rfl (.refl _))))))))) S192)⟩
    rintro s165 _ H199 hf ⟨u170, rfl, S198⟩
    refine g_seq (g_asg (g_callW (g_cons (g_var rfl (g_cons (g_c (g_nil ?_)))))))
    have S200 : M (da K V.non ((eO eI) (none : (Option Int))) :: da K u170 (eA s165) :: da K u151 ((eL (eT4 eI eS (eO eI) (eD iS (eL eI)))) x148) :: R_Links K a42 s57 :: da K (V.ref E101) ((eL eI) acc100) :: da K (V.ref u96) ((eL eI) x93) :: bagR bag :: da K (V.ref E12) ((eL eI) acc11) :: da K u8 ((eL eS) x5) :: Rs) H199 := M.addA S198 (EnF.all fun _ => .non)
    refine ⟨_, _, _, _, _, _, _, rfl, (M.at (M.addA S200 (EnF.at 0 rfl)) 4 rfl), hf, fun x208 d209 v210 H212 hf (S211 : M (pt d209 (.xd [(x208.fld, v210)]) :: da K v210 x208.val :: R_Links K a42 s57 :: da K V.non ((eO eI) (none : (Option Int))) :: da K u170 (eA s165) :: da K u151 ((eL (eT4 eI eS (eO eI) (eD iS (eL eI)))) x148) :: da K (V.ref E101) ((eL eI) acc100) :: da K (V.ref u96) ((eL eI) x93) :: bagR bag :: da K (V.ref E12) ((eL eI) acc11) :: da K u8 ((eL eS) x5) :: Rs) H212) => ?_, fun x203 u206 H205 hf (S204 : M (da K u206 ((eL (eT4 eI eS (eO eI) (eD iS (eL eI)))) x203) :: R_Links K a42 s57 :: da K V.non ((eO eI) (none : (Option Int))) :: da K u170 (eA s165) :: da K u151 ((eL (eT4 eI eS (eO eI) (eD iS (eL eI)))) x148) :: da K (V.ref E101) ((eL eI) acc100) :: da K (V.ref u96) ((eL eI) x93) :: bagR bag :: da K (V.ref E12) ((eL eI) acc11) :: da K u8 ((eL eS) x5) :: Rs) H205) => ?_⟩
    ·
      exact hf.elim
    refine g_nx ?_
    have S215 : M (da K u206 ((eL (eT4 eI eS (eO eI) (eD iS (eL eI)))) x203) :: R_Links K a42 s57 :: da K u170 (eA s165) :: da K u151 ((eL (eT4 eI eS (eO eI) (eD iS (eL eI)))) x148) :: da K (V.ref E101) ((eL eI) acc100) :: da K (V.ref u96) ((eL eI) x93) :: bagR bag :: da K (V.ref E12) ((eL eI) acc11) :: da K u8 ((eL eS) x5) :: Rs) H205 := (M.drp S204 2)
    refine g_seq (g_if (g_not (g_B (g_call (g_cons (g_call (g_cons (g_var rfl (g_cons (g_tup (g_cons (g_c (g_cons (g_var rfl (g_cons (g_call (g_cons (g_var rfl (g_cons (g_var rfl (g_nil (⟨_, _, _, _, _, rfl, (M.at (M.addA S215 (EnF.at 8 rfl)) 7 rfl), hf, fun x217 u220 H219 hf (S218 : M (da K u220 ((eD iS (eL eI)) x217) :: bagR bag :: da K u206 ((eL (eT4 eI eS (eO eI) (eD iS (eL eI)))) x203) :: R_Links K a42 s57 :: da K u170 (eA s165) :: da K u151 ((eL (eT4 eI eS (eO eI) (eD iS (eL eI)))) x148) :: da K (V.ref E101) ((eL eI) acc100) :: da K (V.ref u96) ((eL eI) x93) :: da K (V.ref E12) ((eL eI) acc11) :: da K u8 ((eL eS) x5) :: Rs) H219) => ?_⟩))))))))))))))))))))))
    refine g_cons (g_var rfl (g_nil (v_tupq S218 (EnF.consA (EnF.all fun _ => .str _) (EnF.consA (EnF.all fun _ => .int _) (EnF.consA (EnF.at 0 rfl) (EnF.consA (EnF.all fun _ => .str _) EnF.nilA)))) (len_ok rfl) fun p222 H224 (S223 : M (da K (V.ref p222) ((eT4 eS eI (eD iS (eL eI)) eS) (("put" : Str), x78, x217, x90)) :: da K u220 ((eD iS (eL eI)) x217) :: bagR bag :: da K u206 ((eL (eT4 eI eS (eO eI) (eD iS (eL eI)))) x203) :: R_Links K a42 s57 :: da K u170 (eA s165) :: da K u151 ((eL (eT4 eI eS (eO eI) (eD iS (eL eI)))) x148) :: da K (V.ref E101) ((eL eI) acc100) :: da K (V.ref u96) ((eL eI) x93) :: da K (V.ref E12) ((eL eI) acc11) :: da K u8 ((eL eS) x5) :: Rs) H224) => ?_)))
    refine g_nil (⟨_, _, _, _, _, _, rfl, (M.at (M.addA S223 (EnF.at 0 rfl)) 5 rfl), hf, fun x227 m228 u231 H230 hf (S229 : M (da K u231 (eA x227) :: R_Links K a42 m228 :: da K (V.ref p222) ((eT4 eS eI (eD iS (eL eI)) eS) (("put" : Str), x78, x217, x90)) :: da K u220 ((eD iS (eL eI)) x217) :: bagR bag :: da K u206 ((eL (eT4 eI eS (eO eI) (eD iS (eL eI)))) x203) :: da K u170 (eA s165) :: da K u151 ((eL (eT4 eI eS (eO eI) (eD iS (eL eI)))) x148) :: da K (V.ref E101) ((eL eI) acc100) :: da K (V.ref u96) ((eL eI) x93) :: da K (V.ref E12) ((eL eI) acc11) :: da K u8 ((eL eS) x5) :: Rs) H230) => ?_⟩)
    refine g_cons (g_var rfl (g_nil ?_))
    obtain ⟨h233, hf⟩ := hf
    refine ⟨_, _, _, rfl, (Dq.dn (M.gotA S229 0 rfl)), (Dn.by_ h233.1 (Dq.dn (M.gotA S229 6 rfl))), h233.2, ?_⟩
    refine g_bl (v_ifcF (by decide) (g_next (g_nx (g_seq (g_if ?_)))))
    refine tt_cut hf (fun H => M (da K u231 (eA x227) :: R_Links K a42 m228 :: da K (V.ref p222) ((eT4 eS eI (eD iS (eL eI)) eS) (("put" : Str), x78, x217, x90)) :: da K u220 ((eD iS (eL eI)) x217) :: bagR bag :: da K u206 ((eL (eT4 eI eS (eO eI) (eD iS (eL eI)))) x203) :: da K u170 (eA s165) :: da K u151 ((eL (eT4 eI eS (eO eI) (eD iS (eL eI)))) x148) :: da K (V.ref E101) ((eL eI) acc100) :: da K (V.ref u96) ((eL eI) x93) :: da K (V.ref E12) ((eL eI) acc11) :: da K u8 ((eL eS) x5) :: Rs) H) (fun kk235 P236 hP237 hf => ?_) ?_
    ·
      refine g_or (g_test (g_op (g_callW (g_cons (g_var rfl (g_cons (g_var rfl (g_nil ?_))))))))
      have S240 : M (da K (V.int x78) ((eO eI) (some x78)) :: da K u231 (eA x227) :: R_Links K a42 m228 :: da K (V.ref p222) ((eT4 eS eI (eD iS (eL eI)) eS) (("put" : Str), x78, x217, x90)) :: da K u220 ((eD iS (eL eI)) x217) :: bagR bag :: da K u206 ((eL (eT4 eI eS (eO eI) (eD iS (eL eI)))) x203) :: da K u170 (eA s165) :: da K u151 ((eL (eT4 eI eS (eO eI) (eD iS (eL eI)))) x148) :: da K (V.ref E101) ((eL eI) acc100) :: da K (V.ref u96) ((eL eI) x93) :: da K (V.ref E12) ((eL eI) acc11) :: da K u8 ((eL eS) x5) :: Rs) H230 := M.addA S229 (EnF.all fun _ => .int _)
      refine ⟨_, _, _, _, _, _, _, rfl, (M.at (M.addA S240 (EnF.at 0 rfl)) 3 rfl), hf, fun x248 d249 v250 H252 hf (S251 : M (pt d249 (.xd [(x248.fld, v250)]) :: da K v250 x248.val :: R_Links K a42 m228 :: da K (V.int x78) ((eO eI) (some x78)) :: da K u231 (eA x227) :: da K (V.ref p222) ((eT4 eS eI (eD iS (eL eI)) eS) (("put" : Str), x78, x217, x90)) :: da K u220 ((eD iS (eL eI)) x217) :: bagR bag :: da K u206 ((eL (eT4 eI eS (eO eI) (eD iS (eL eI)))) x203) :: da K u170 (eA s165) :: da K u151 ((eL (eT4 eI eS (eO eI) (eD iS (eL eI)))) x148) :: da K (V.ref E101) ((eL eI) acc100) :: da K (V.ref u96) ((eL eI) x93) :: da K (V.ref E12) ((eL eI) acc11) :: da K u8 ((eL eS) x5) :: Rs) H252) => ?_, fun x243 u246 H245 hf (S244 : M (da K u246 ((eL (eT4 eI eS (eO eI) (eD iS (eL eI)))) x243) :: R_Links K a42 m228 :: da K (V.int x78) ((eO eI) (some x78)) :: da K u231 (eA x227) :: da K (V.ref p222) ((eT4 eS eI (eD iS (eL eI)) eS) (("put" : Str), x78, x217, x90)) :: da K u220 ((eD iS (eL eI)) x217) :: bagR bag :: da K u206 ((eL (eT4 eI eS (eO eI) (eD iS (eL eI)))) x203) :: da K u170 (eA s165) :: da K u151 ((eL (eT4 eI eS (eO eI) (eD iS (eL eI)))) x148) :: da K (V.ref E101) ((eL eI) acc100) :: da K (V.ref u96) ((eL eI) x93) :: da K (V.ref E12) ((eL eI) acc11) :: da K u8 ((eL eS) x5) :: Rs) H245) => ?_⟩
      ·
        exact hf.elim
      obtain ⟨h255, hf⟩ := hf
      refine g_var rfl (v_neW (Dq.dn (M.gotA S244 0 rfl)) (Dn.by_ (congrArg _ h255.1) (Dq.dn (M.gotA S244 9 rfl))) h255.2 (g_bl (v_ifF ?_)))
      refine tt_cut hf (fun H => M (da K u246 ((eL (eT4 eI eS (eO eI) (eD iS (eL eI)))) x243) :: R_Links K a42 m228 :: da K (V.int x78) ((eO eI) (some x78)) :: da K u231 (eA x227) :: da K (V.ref p222) ((eT4 eS eI (eD iS (eL eI)) eS) (("put" : Str), x78, x217, x90)) :: da K u220 ((eD iS (eL eI)) x217) :: bagR bag :: da K u206 ((eL (eT4 eI eS (eO eI) (eD iS (eL eI)))) x203) :: da K u170 (eA s165) :: da K u151 ((eL (eT4 eI eS (eO eI) (eD iS (eL eI)))) x148) :: da K (V.ref E101) ((eL eI) acc100) :: da K (V.ref u96) ((eL eI) x93) :: da K (V.ref E12) ((eL eI) acc11) :: da K u8 ((eL eS) x5) :: Rs) H) (fun kk257 P258 hP259 hf => ?_) ?_
      ·
        refine g_and (g_test (g_op (g_op (g_var rfl (g_c ?_)))))
        obtain ⟨x262, h263, hf⟩ := hf
        refine v_ixa S244 8 rfl h263 fun u264 S265 => ?_
        refine g_c ?_
        obtain ⟨x267, h268, hf⟩ := hf
        have S269 := M.cstA S265 0 rfl h268
        obtain rfl := (S269.gotA 0 rfl).strV
        have S270 := S269.tl
        refine v_neS (g_bl (v_iff hf (fun _ hf => ?_) (fun _ hf => ?_)))
        ·
          refine g_test (g_op (g_callW (g_cons (g_var rfl (g_cons (g_c (g_nil ?_)))))))
          have S271 : M (da K V.non ((eO eI) (none : (Option Int))) :: da K (V.str x267) (eA x262) :: da K u246 ((eL (eT4 eI eS (eO eI) (eD iS (eL eI)))) x243) :: R_Links K a42 m228 :: da K (V.int x78) ((eO eI) (some x78)) :: da K u231 (eA x227) :: da K (V.ref p222) ((eT4 eS eI (eD iS (eL eI)) eS) (("put" : Str), x78, x217, x90)) :: da K u220 ((eD iS (eL eI)) x217) :: bagR bag :: da K u206 ((eL (eT4 eI eS (eO eI) (eD iS (eL eI)))) x203) :: da K u170 (eA s165) :: da K u151 ((eL (eT4 eI eS (eO eI) (eD iS (eL eI)))) x148) :: da K (V.ref E101) ((eL eI) acc100) :: da K (V.ref u96) ((eL eI) x93) :: da K (V.ref E12) ((eL eI) acc11) :: da K u8 ((eL eS) x5) :: Rs) H245 := M.addA S270 (EnF.all fun _ => .non)
          refine ⟨_, _, _, _, _, _, _, rfl, (M.at (M.addA S271 (EnF.at 0 rfl)) 4 rfl), hf, fun x279 d280 v281 H283 hf (S282 : M (pt d280 (.xd [(x279.fld, v281)]) :: da K v281 x279.val :: R_Links K a42 m228 :: da K V.non ((eO eI) (none : (Option Int))) :: da K (V.str x267) (eA x262) :: da K u246 ((eL (eT4 eI eS (eO eI) (eD iS (eL eI)))) x243) :: da K (V.int x78) ((eO eI) (some x78)) :: da K u231 (eA x227) :: da K (V.ref p222) ((eT4 eS eI (eD iS (eL eI)) eS) (("put" : Str), x78, x217, x90)) :: da K u220 ((eD iS (eL eI)) x217) :: bagR bag :: da K u206 ((eL (eT4 eI eS (eO eI) (eD iS (eL eI)))) x203) :: da K u170 (eA s165) :: da K u151 ((eL (eT4 eI eS (eO eI) (eD iS (eL eI)))) x148) :: da K (V.ref E101) ((eL eI) acc100) :: da K (V.ref u96) ((eL eI) x93) :: da K (V.ref E12) ((eL eI) acc11) :: da K u8 ((eL eS) x5) :: Rs) H283) => ?_, fun x274 u277 H276 hf (S275 : M (da K u277 ((eL (eT4 eI eS (eO eI) (eD iS (eL eI)))) x274) :: R_Links K a42 m228 :: da K V.non ((eO eI) (none : (Option Int))) :: da K (V.str x267) (eA x262) :: da K u246 ((eL (eT4 eI eS (eO eI) (eD iS (eL eI)))) x243) :: da K (V.int x78) ((eO eI) (some x78)) :: da K u231 (eA x227) :: da K (V.ref p222) ((eT4 eS eI (eD iS (eL eI)) eS) (("put" : Str), x78, x217, x90)) :: da K u220 ((eD iS (eL eI)) x217) :: bagR bag :: da K u206 ((eL (eT4 eI eS (eO eI) (eD iS (eL eI)))) x203) :: da K u170 (eA s165) :: da K u151 ((eL (eT4 eI eS (eO eI) (eD iS (eL eI)))) x148) :: da K (V.ref E101) ((eL eI) acc100) :: da K (V.ref u96) ((eL eI) x93) :: da K (V.ref E12) ((eL eI) acc11) :: da K u8 ((eL eS) x5) :: Rs) H276) => ?_⟩
          ·
            exact hf.elim
          obtain ⟨h286, hf⟩ := hf
          refine g_var rfl (v_neW (Dq.dn (M.gotA S275 0 rfl)) (Dn.by_ (congrArg _ h286.1) (Dq.dn (M.gotA S275 10 rfl))) h286.2 (g_bl ?_))
          exact hP259 _ _ hf (M.sub (.cons 4 rfl (.cons 1 rfl (.cons 3 rfl (.cons 3 rfl (.cons 3 rfl (.cons 3 rfl (.cons 3 rfl (.cons 3 rfl (.cons 3 rfl (.cons 3 rfl (.cons 3 rfl (.cons 3 rfl (.cons 3 rfl (.cons 3 rfl (.tl (.tl (.tl (.refl _)))))))))))))))))) S275)
        ·
          exact hP259 _ _ hf (M.sub (.cons 1 rfl (.cons 1 rfl (.cons 1 rfl (.cons 1 rfl (.cons 1 rfl (.cons 1 rfl (.cons 1 rfl (.cons 1 rfl (.cons 1 rfl (.cons 1 rfl (.cons 1 rfl (.cons 1 rfl (.cons 1 rfl (.cons 1 rfl (.tl (.refl _)))))))))))))))) S270)
      intro c256 H288 hf S287
      exact hP237 _ _ hf (M.sub (.cons 3 rfl (.cons 1 rfl (.cons 2 rfl (.cons 2 rfl (.cons 2 rfl (.cons 2 rfl (.cons 2 rfl (.cons 2 rfl (.cons 2 rfl (.cons 2 rfl (.cons 2 rfl (.cons 2 rfl (.tl (.tl (.refl _))))))))))))))) S287)
    intro c234 H290 hf S289
    refine v_iff hf (fun _ hf => ?_) (fun _ hf => ?_)
    ·
      refine g_ret (g_c ?_)
      rw [show false = true from hf]
      exact k _
    ·
      refine g_next (g_nx (g_if (g_test (g_op (g_op (g_var rfl (g_c ?_)))))))
      obtain ⟨x291, h292, hf⟩ := hf
      refine v_ixa S289 6 rfl h292 fun u293 S294 => ?_
      refine g_c ?_
      obtain ⟨x296, h297, hf⟩ := hf
      have S298 := M.cstA S294 0 rfl h297
      obtain rfl := (S298.gotA 0 rfl).strV
      have S299 := S298.tl
      refine v_eqS (g_bl (v_iff hf (fun _ hf => ?_) (fun _ hf => ?_)))
      ·
        refine g_seq (g_asg (g_c ?_))
        have S300 : M (da K V.non ((eO eI) (none : (Option Int))) :: da K (V.str x296) (eA x291) :: da K u231 (eA x227) :: R_Links K a42 m228 :: da K (V.ref p222) ((eT4 eS eI (eD iS (eL eI)) eS) (("put" : Str), x78, x217, x90)) :: da K u220 ((eD iS (eL eI)) x217) :: bagR bag :: da K u206 ((eL (eT4 eI eS (eO eI) (eD iS (eL eI)))) x203) :: da K u170 (eA s165) :: da K u151 ((eL (eT4 eI eS (eO eI) (eD iS (eL eI)))) x148) :: da K (V.ref E101) ((eL eI) acc100) :: da K (V.ref u96) ((eL eI) x93) :: da K (V.ref E12) ((eL eI) acc11) :: da K u8 ((eL eS) x5) :: Rs) H290 := M.addA S299 (EnF.all fun _ => .non)
        refine g_nx ?_
        have S302 : M (da K V.non ((eO eI) (none : (Option Int))) :: R_Links K a42 m228 :: bagR bag :: da K u206 ((eL (eT4 eI eS (eO eI) (eD iS (eL eI)))) x203) :: da K u170 (eA s165) :: da K u151 ((eL (eT4 eI eS (eO eI) (eD iS (eL eI)))) x148) :: da K (V.ref E101) ((eL eI) acc100) :: da K (V.ref u96) ((eL eI) x93) :: da K (V.ref E12) ((eL eI) acc11) :: da K u8 ((eL eS) x5) :: Rs) H290 := (M.drp (M.drp (M.drp (M.drp S300 5) 4) 2) 1)
        refine jn_cut (β := (Option Int)) hf (fun (s303 : (Option Int)) σ H' => ∃ (u308 : V), σ = [some (V.ref sc), some (V.ref bag), some u8, some (V.ref E12), some (V.ref a42), some (V.int x60), some (V.int x78), some (V.str x90), some (V.ref u96), some (V.ref E101), some u151, some u170, some u206, none, some u308, o71] ∧ M (da K u308 ((eO eI) s303) :: R_Links K a42 m228 :: bagR bag :: da K u206 ((eL (eT4 eI eS (eO eI) (eD iS (eL eI)))) x203) :: da K u170 (eA s165) :: da K u151 ((eL (eT4 eI eS (eO eI) (eD iS (eL eI)))) x148) :: da K (V.ref E101) ((eL eI) acc100) :: da K (V.ref u96) ((eL eI) x93) :: da K (V.ref E12) ((eL eI) acc11) :: da K u8 ((eL eS) x5) :: Rs) H') (fun kk305 N306 hN307 hf => ?_) ?_
        ·
          refine g_if (g_test (g_op (g_var rfl (g_c (v_neS (g_bl (v_iff hf (fun _ hf => ?_) (fun _ hf => ?_))))))))
          ·
            refine g_asg (g_cb (g_cons (g_var rfl (g_nil ?_))))
            obtain ⟨m310, h311, hf⟩ := hf
            refine v_max (M.gotA S302 6 rfl) h311 ?_
            have S312 : M (da K (V.int m310) ((eO eI) (some m310)) :: da K V.non ((eO eI) (none : (Option Int))) :: R_Links K a42 m228 :: bagR bag :: da K u206 ((eL (eT4 eI eS (eO eI) (eD iS (eL eI)))) x203) :: da K u170 (eA s165) :: da K u151 ((eL (eT4 eI eS (eO eI) (eD iS (eL eI)))) x148) :: da K (V.ref E101) ((eL eI) acc100) :: da K (V.ref u96) ((eL eI) x93) :: da K (V.ref E12) ((eL eI) acc11) :: da K u8 ((eL eS) x5) :: Rs) H290 := M.addA S302 (EnF.all fun _ => .int _)
            exact hN307 _ _ _ hf ⟨_, rfl, (M.sub (.cons 0 rfl (.cons 1 rfl (.cons 1 rfl (.cons 1 rfl (.cons 1 rfl (.cons 1 rfl (.cons 1 rfl (.cons 1 rfl (.cons 1 rfl (.cons 1 rfl (.tl (.refl _)))))))))))) S312)⟩
          ·
            refine g_next ?_
            exact hN307 _ _ _ hf ⟨_, rfl, (M.sub (.cons 0 rfl (.cons 0 rfl (.cons 0 rfl (.cons 0 rfl (.cons 0 rfl (.cons 0 rfl (.cons 0 rfl (.cons 0 rfl (.cons 0 rfl (.cons 0 rfl (.refl _))))))))))) S302)⟩
        rintro s303 _ H315 hf ⟨u308, rfl, S314⟩
        refine g_if (g_not (g_B (g_call (g_cons (g_lst (g_cons (g_meth (g_var rfl (v_R_Links S314 1 rfl (fun _ _ _ _ => rfl) (g_cons (g_var rfl (g_nil (⟨_, _, _, _, _, _, rfl, (M.at S314 1 rfl), hf, fun x320 d321 v322 H324 hf (S323 : M (pt d321 (.xd [(x320.fld, v322)]) :: da K v322 x320.val :: R_Links K a42 m228 :: da K u308 ((eO eI) s303) :: bagR bag :: da K u206 ((eL (eT4 eI eS (eO eI) (eD iS (eL eI)))) x203) :: da K u170 (eA s165) :: da K u151 ((eL (eT4 eI eS (eO eI) (eD iS (eL eI)))) x148) :: da K (V.ref E101) ((eL eI) acc100) :: da K (V.ref u96) ((eL eI) x93) :: da K (V.ref E12) ((eL eI) acc11) :: da K u8 ((eL eS) x5) :: Rs) H324) => ?_, fun x316 H318 hf (S317 : M (R_Links K a42 m228 :: da K u308 ((eO eI) s303) :: bagR bag :: da K u206 ((eL (eT4 eI eS (eO eI) (eD iS (eL eI)))) x203) :: da K u170 (eA s165) :: da K u151 ((eL (eT4 eI eS (eO eI) (eD iS (eL eI)))) x148) :: da K (V.ref E101) ((eL eI) acc100) :: da K (V.ref u96) ((eL eI) x93) :: da K (V.ref E12) ((eL eI) acc11) :: da K u8 ((eL eS) x5) :: Rs) H318) => ?_⟩)))))))))))))
        ·
          exact hf.elim
        refine g_cons (g_meth (g_var rfl (v_R_Links S317 0 rfl (fun _ _ _ _ => rfl) (g_cons (g_var rfl (g_nil (⟨_, _, _, _, _, _, rfl, (M.at S317 0 rfl), hf, fun x332 d333 v334 H336 hf (S335 : M (pt d333 (.xd [(x332.fld, v334)]) :: da K v334 x332.val :: R_Links K a42 m228 :: da K u308 ((eO eI) s303) :: bagR bag :: da K u206 ((eL (eT4 eI eS (eO eI) (eD iS (eL eI)))) x203) :: da K u170 (eA s165) :: da K u151 ((eL (eT4 eI eS (eO eI) (eD iS (eL eI)))) x148) :: da K (V.ref E101) ((eL eI) acc100) :: da K (V.ref u96) ((eL eI) x93) :: da K (V.ref E12) ((eL eI) acc11) :: da K u8 ((eL eS) x5) :: Rs) H336) => ?_, fun x327 u330 H329 hf (S328 : M (da K u330 ((eO eI) x327) :: R_Links K a42 m228 :: da K u308 ((eO eI) s303) :: bagR bag :: da K u206 ((eL (eT4 eI eS (eO eI) (eD iS (eL eI)))) x203) :: da K u170 (eA s165) :: da K u151 ((eL (eT4 eI eS (eO eI) (eD iS (eL eI)))) x148) :: da K (V.ref E101) ((eL eI) acc100) :: da K (V.ref u96) ((eL eI) x93) :: da K (V.ref E12) ((eL eI) acc11) :: da K u8 ((eL eS) x5) :: Rs) H329) => ?_⟩)))))))
        ·
          exact hf.elim
        refine g_nil (v_lsto (ds := ([eS x316, (eO eI) x327] : List PyData).map eA) S328 (EnF.consA (EnF.all fun _ => .str _) (EnF.consA (EnF.at 0 rfl) EnF.nilA)) (len_ok rfl) fun p339 H341 (S340 : M (acR K p339 (([eS x316, (eO eI) x327] : List PyData).map eA) :: da K u330 ((eO eI) x327) :: R_Links K a42 m228 :: da K u308 ((eO eI) s303) :: bagR bag :: da K u206 ((eL (eT4 eI eS (eO eI) (eD iS (eL eI)))) x203) :: da K u170 (eA s165) :: da K u151 ((eL (eT4 eI eS (eO eI) (eD iS (eL eI)))) x148) :: da K (V.ref E101) ((eL eI) acc100) :: da K (V.ref u96) ((eL eI) x93) :: da K (V.ref E12) ((eL eI) acc11) :: da K u8 ((eL eS) x5) :: Rs) H341) => ?_)
        refine g_cons (g_lst (g_cons (g_var rfl (g_cons (g_var rfl (g_nil (v_lsto (ds := ([eS x90, (eO eI) s303] : List PyData).map eA) S340 (EnF.consA (EnF.all fun _ => .str _) (EnF.consA (EnF.at 3 rfl) EnF.nilA)) (len_ok rfl) fun p343 H345 (S344 : M (acR K p343 (([eS x90, (eO eI) s303] : List PyData).map eA) :: acR K p339 (([eS x316, (eO eI) x327] : List PyData).map eA) :: da K u330 ((eO eI) x327) :: R_Links K a42 m228 :: da K u308 ((eO eI) s303) :: bagR bag :: da K u206 ((eL (eT4 eI eS (eO eI) (eD iS (eL eI)))) x203) :: da K u170 (eA s165) :: da K u151 ((eL (eT4 eI eS (eO eI) (eD iS (eL eI)))) x148) :: da K (V.ref E101) ((eL eI) acc100) :: da K (V.ref u96) ((eL eI) x93) :: da K (V.ref E12) ((eL eI) acc11) :: da K u8 ((eL eS) x5) :: Rs) H345) => ?_)))))))
        refine g_nil ?_
        obtain ⟨h347, hf⟩ := hf
        refine ⟨_, _, _, rfl, (Dq.dn (M.gotO S344 1 rfl)), (Dn.by_ h347.1 (Dq.dn (M.gotO S344 0 rfl))), h347.2, ?_⟩
        refine g_bl (v_ifcF (by decide) (g_next ?_))
        exact ⟨_, hf, _, _, _, _, _, _, _, _, _, _, rfl, (M.sub (.cons 3 rfl (.cons 4 rfl (.cons 9 rfl (.cons 9 rfl (.tl (.tl (.tl (.tl (.tl (.tl (.tl (.tl (.tl (.refl _)))))))))))))) S344)⟩
      ·
        refine g_next ?_
        exact ⟨_, hf, _, _, _, _, _, _, _, _, _, _, rfl, (M.sub (.cons 2 rfl (.cons 4 rfl (.cons 9 rfl (.cons 9 rfl (.tl (.tl (.tl (.tl (.tl (.tl (.tl (.tl (.tl (.refl _)))))))))))))) S299)⟩
  rintro s57 _ H349 hf ⟨o62, o63, o64, o65, o66, o67, o68, o69, o70, o71, rfl, S348⟩
  refine g_nx ?_
  refine g_ret (g_c ?_)
  rw [show true = true from hf]
  exact k _
def top (i : Nat) : Stmt := PySem.Challenge.pw_restorechain_k43_bases_found.main.body.getD i (.Pass ⟨0, 0, 0, 0⟩)
def meth (i j : Nat) : Stmt := (clsB (top i)).getD j (.Pass ⟨0, 0, 0, 0⟩)
abbrev s_l_bag : Stmt := top 38
abbrev s_l_take : Stmt := top 39
abbrev s_l_name : Stmt := top 40
abbrev s_l_names : Stmt := top 41
abbrev s_Links___init__ : Stmt := meth 36 0
abbrev s_Links_times : Stmt := meth 36 6
abbrev s_fit_or_wrong : Stmt := top 34
abbrev s_is_whole : Stmt := top 17
abbrev s_is_time : Stmt := top 19
abbrev s_Links_need_link : Stmt := meth 36 1
abbrev s_Links_kind : Stmt := meth 36 7
abbrev s_Links_base : Stmt := meth 36 8
abbrev s_own_state : Stmt := top 35
abbrev s_Links_state : Stmt := meth 36 12
abbrev s_l_seen : Stmt := top 59
abbrev s_l_alike : Stmt := top 42
abbrev s_is_name : Stmt := top 18
abbrev s_is_seal : Stmt := top 20
abbrev s_are_seals : Stmt := top 21
abbrev s_is_state : Stmt := top 22
abbrev s_Links_base_ahead : Stmt := meth 36 2
abbrev s_Links_put : Stmt := meth 36 3
abbrev s_Links_merge : Stmt := meth 36 5
abbrev s_Links_forget : Stmt := meth 36 4
abbrev s_l_call : Stmt := top 52
abbrev s_l_class : Stmt := top 51
abbrev s_l_say : Stmt := top 53
abbrev s_l_seal : Stmt := top 43
abbrev s_l_seals : Stmt := top 44
abbrev s_l_state : Stmt := top 45
abbrev s_law : Stmt := top 60
abbrev s_Wrong___init__ : Stmt := meth 4 0
abbrev s_NoMoment___init__ : Stmt := meth 8 0
abbrev s_There___init__ : Stmt := meth 5 0
abbrev s_TooMany___init__ : Stmt := meth 6 0
abbrev s_NoBase___init__ : Stmt := meth 7 0
structure Txt (K : PySem.W.Frag) (mg : Str → Option Value) : Prop where
  F_l_bag : FunD K "_law_bag" "_law_bag" (defArgs s_l_bag) (defBody s_l_bag) (defScope s_l_bag) [] [] (He.ga K "_law_bag") (fdOf K (He.ga K "_law_bag"))
  F_l_take : FunD K "_law_take" "_law_take" (defArgs s_l_take) (defBody s_l_take) (defScope s_l_take) [] [] (He.ga K "_law_take") (fdOf K (He.ga K "_law_take"))
  F_l_name : FunD K "_law_name" "_law_name" (defArgs s_l_name) (defBody s_l_name) (defScope s_l_name) [] [] (He.ga K "_law_name") (fdOf K (He.ga K "_law_name"))
  F_l_names : FunD K "_law_names" "_law_names" (defArgs s_l_names) (defBody s_l_names) (defScope s_l_names) [] [] (He.ga K "_law_names") (fdOf K (He.ga K "_law_names"))
  F_Links___init__ : FunD K "__init__" "Links.__init__" (defArgs s_Links___init__) (defBody s_Links___init__) (defScope s_Links___init__) [] [] (mA K "Links" "__init__") (fdOf K (mA K "Links" "__init__"))
  F_Links_times : FunD K "times" "Links.times" (defArgs s_Links_times) (defBody s_Links_times) (defScope s_Links_times) [] [] (mA K "Links" "times") (fdOf K (mA K "Links" "times"))
  F_fit_or_wrong : FunD K "fit_or_wrong" "fit_or_wrong" (defArgs s_fit_or_wrong) (defBody s_fit_or_wrong) (defScope s_fit_or_wrong) [] [] (He.ga K "fit_or_wrong") (fdOf K (He.ga K "fit_or_wrong"))
  F_is_whole : FunD K "is_whole" "is_whole" (defArgs s_is_whole) (defBody s_is_whole) (defScope s_is_whole) [] [] (He.ga K "is_whole") (fdOf K (He.ga K "is_whole"))
  F_is_time : FunD K "is_time" "is_time" (defArgs s_is_time) (defBody s_is_time) (defScope s_is_time) [] [] (He.ga K "is_time") (fdOf K (He.ga K "is_time"))
  F_Links_need_link : FunD K "need_link" "Links.need_link" (defArgs s_Links_need_link) (defBody s_Links_need_link) (defScope s_Links_need_link) [] [] (mA K "Links" "need_link") (fdOf K (mA K "Links" "need_link"))
  F_Links_kind : FunD K "kind" "Links.kind" (defArgs s_Links_kind) (defBody s_Links_kind) (defScope s_Links_kind) [] [] (mA K "Links" "kind") (fdOf K (mA K "Links" "kind"))
  F_Links_base : FunD K "base" "Links.base" (defArgs s_Links_base) (defBody s_Links_base) (defScope s_Links_base) [] [] (mA K "Links" "base") (fdOf K (mA K "Links" "base"))
  F_own_state : FunD K "own_state" "own_state" (defArgs s_own_state) (defBody s_own_state) (defScope s_own_state) [] [] (He.ga K "own_state") (fdOf K (He.ga K "own_state"))
  F_Links_state : FunD K "state" "Links.state" (defArgs s_Links_state) (defBody s_Links_state) (defScope s_Links_state) [] [] (mA K "Links" "state") (fdOf K (mA K "Links" "state"))
  F_l_seen : FunD K "_law_seen" "_law_seen" (defArgs s_l_seen) (defBody s_l_seen) (defScope s_l_seen) [] [] (He.ga K "_law_seen") (fdOf K (He.ga K "_law_seen"))
  F_l_alike : FunD K "_law_alike" "_law_alike" (defArgs s_l_alike) (defBody s_l_alike) (defScope s_l_alike) [] [] (He.ga K "_law_alike") (fdOf K (He.ga K "_law_alike"))
  F_is_name : FunD K "is_name" "is_name" (defArgs s_is_name) (defBody s_is_name) (defScope s_is_name) [] [] (He.ga K "is_name") (fdOf K (He.ga K "is_name"))
  F_is_seal : FunD K "is_seal" "is_seal" (defArgs s_is_seal) (defBody s_is_seal) (defScope s_is_seal) [] [] (He.ga K "is_seal") (fdOf K (He.ga K "is_seal"))
  F_are_seals : FunD K "are_seals" "are_seals" (defArgs s_are_seals) (defBody s_are_seals) (defScope s_are_seals) [] [] (He.ga K "are_seals") (fdOf K (He.ga K "are_seals"))
  F_is_state : FunD K "is_state" "is_state" (defArgs s_is_state) (defBody s_is_state) (defScope s_is_state) [] [] (He.ga K "is_state") (fdOf K (He.ga K "is_state"))
  F_Links_base_ahead : FunD K "base_ahead" "Links.base_ahead" (defArgs s_Links_base_ahead) (defBody s_Links_base_ahead) (defScope s_Links_base_ahead) [] [] (mA K "Links" "base_ahead") (fdOf K (mA K "Links" "base_ahead"))
  F_Links_put : FunD K "put" "Links.put" (defArgs s_Links_put) (defBody s_Links_put) (defScope s_Links_put) [] [("kind", .str "full")] (mA K "Links" "put") (fdOf K (mA K "Links" "put"))
  F_Links_merge : FunD K "merge" "Links.merge" (defArgs s_Links_merge) (defBody s_Links_merge) (defScope s_Links_merge) [] [] (mA K "Links" "merge") (fdOf K (mA K "Links" "merge"))
  F_Links_forget : FunD K "forget" "Links.forget" (defArgs s_Links_forget) (defBody s_Links_forget) (defScope s_Links_forget) [] [] (mA K "Links" "forget") (fdOf K (mA K "Links" "forget"))
  F_l_call : FunD K "_law_call" "_law_call" (defArgs s_l_call) (defBody s_l_call) (defScope s_l_call) [] [] (He.ga K "_law_call") (fdOf K (He.ga K "_law_call"))
  F_l_class : FunD K "_law_class" "_law_class" (defArgs s_l_class) (defBody s_l_class) (defScope s_l_class) [] [] (He.ga K "_law_class") (fdOf K (He.ga K "_law_class"))
  F_l_say : FunD K "_law_say" "_law_say" (defArgs s_l_say) (defBody s_l_say) (defScope s_l_say) [] [] (He.ga K "_law_say") (fdOf K (He.ga K "_law_say"))
  F_l_seal : FunD K "_law_seal" "_law_seal" (defArgs s_l_seal) (defBody s_l_seal) (defScope s_l_seal) [] [] (He.ga K "_law_seal") (fdOf K (He.ga K "_law_seal"))
  F_l_seals : FunD K "_law_seals" "_law_seals" (defArgs s_l_seals) (defBody s_l_seals) (defScope s_l_seals) [] [] (He.ga K "_law_seals") (fdOf K (He.ga K "_law_seals"))
  F_l_state : FunD K "_law_state" "_law_state" (defArgs s_l_state) (defBody s_l_state) (defScope s_l_state) [] [] (He.ga K "_law_state") (fdOf K (He.ga K "_law_state"))
  F_law : FunD K "law" "law" (defArgs s_law) (defBody s_law) (defScope s_law) [] [] (He.ga K "law") (fdOf K (He.ga K "law"))
  F_Wrong___init__ : FunD K "__init__" "Wrong.__init__" (defArgs s_Wrong___init__) (defBody s_Wrong___init__) (defScope s_Wrong___init__) [] [] (mA K "Wrong" "__init__") (fdOf K (mA K "Wrong" "__init__"))
  F_NoMoment___init__ : FunD K "__init__" "NoMoment.__init__" (defArgs s_NoMoment___init__) (defBody s_NoMoment___init__) (defScope s_NoMoment___init__) [] [] (mA K "NoMoment" "__init__") (fdOf K (mA K "NoMoment" "__init__"))
  F_There___init__ : FunD K "__init__" "There.__init__" (defArgs s_There___init__) (defBody s_There___init__) (defScope s_There___init__) [] [] (mA K "There" "__init__") (fdOf K (mA K "There" "__init__"))
  F_TooMany___init__ : FunD K "__init__" "TooMany.__init__" (defArgs s_TooMany___init__) (defBody s_TooMany___init__) (defScope s_TooMany___init__) [] [] (mA K "TooMany" "__init__") (fdOf K (mA K "TooMany" "__init__"))
  F_NoBase___init__ : FunD K "__init__" "NoBase.__init__" (defArgs s_NoBase___init__) (defBody s_NoBase___init__) (defScope s_NoBase___init__) [] [] (mA K "NoBase" "__init__") (fdOf K (mA K "NoBase" "__init__"))
  c_MOST_TIME : ∃ t, mg "MOST_TIME" = some (.int 1000000 t)
  c_LETTERS : ∃ t, mg "LETTERS" = some (.str "abcdefghijklmnopqrstuvwxyz" t)
  c_LONGEST : ∃ t, mg "LONGEST" = some (.int 8 t)
  c_MOST_PIECE : ∃ t, mg "MOST_PIECE" = some (.int 16 t)
  c_BASE : ∃ t, mg "BASE" = some (.int 1001 t)
  c_MOST_CONTENT : ∃ t, mg "MOST_CONTENT" = some (.int 48 t)
  c_MOST_FILES : ∃ t, mg "MOST_FILES" = some (.int 8 t)
  c_MOST_LINKS : ∃ t, mg "MOST_LINKS" = some (.int 24 t)
  c_FULL : ∃ t, mg "FULL" = some (.str "full" t)
  cg_KINDS : mg "KINDS" = some (.ref (He.ga K "KINDS"))
  ct_KINDS : ∀ H, SqT K H (He.ga K "KINDS") [.str "full", .str "step", .str "wide"]
  g_l_bag : mg "_law_bag" = some (.ref (He.ga K "_law_bag"))
  g_l_take : mg "_law_take" = some (.ref (He.ga K "_law_take"))
  g_l_name : mg "_law_name" = some (.ref (He.ga K "_law_name"))
  g_l_names : mg "_law_names" = some (.ref (He.ga K "_law_names"))
  g_fit_or_wrong : mg "fit_or_wrong" = some (.ref (He.ga K "fit_or_wrong"))
  g_is_whole : mg "is_whole" = some (.ref (He.ga K "is_whole"))
  g_is_time : mg "is_time" = some (.ref (He.ga K "is_time"))
  g_own_state : mg "own_state" = some (.ref (He.ga K "own_state"))
  g_l_seen : mg "_law_seen" = some (.ref (He.ga K "_law_seen"))
  g_l_alike : mg "_law_alike" = some (.ref (He.ga K "_law_alike"))
  g_is_name : mg "is_name" = some (.ref (He.ga K "is_name"))
  g_is_seal : mg "is_seal" = some (.ref (He.ga K "is_seal"))
  g_are_seals : mg "are_seals" = some (.ref (He.ga K "are_seals"))
  g_is_state : mg "is_state" = some (.ref (He.ga K "is_state"))
  g_l_call : mg "_law_call" = some (.ref (He.ga K "_law_call"))
  g_l_class : mg "_law_class" = some (.ref (He.ga K "_law_class"))
  g_l_say : mg "_law_say" = some (.ref (He.ga K "_law_say"))
  g_l_seal : mg "_law_seal" = some (.ref (He.ga K "_law_seal"))
  g_l_seals : mg "_law_seals" = some (.ref (He.ga K "_law_seals"))
  g_l_state : mg "_law_state" = some (.ref (He.ga K "_law_state"))
  g_law : mg "law" = some (.ref (He.ga K "law"))
  cg_Wrong : mg "Wrong" = some (.ref (He.ga K "Wrong"))
  cg_NoMoment : mg "NoMoment" = some (.ref (He.ga K "NoMoment"))
  cg_There : mg "There" = some (.ref (He.ga K "There"))
  cg_TooMany : mg "TooMany" = some (.ref (He.ga K "TooMany"))
  cg_NoBase : mg "NoBase" = some (.ref (He.ga K "NoBase"))
  cg_StoreError : mg "StoreError" = some (.ref (He.ga K "StoreError"))
  cg_Missing : mg "Missing" = some (.ref (He.ga K "Missing"))
  cg_Links : mg "Links" = some (.ref (He.ga K "Links"))
  cl_Links : Cls K (He.ga K "Links")
  mk_Links : Mk K (He.ga K "Links") (mA K "Links" "__init__")
  na_Links_sort_by : NoAttr K (He.ga K "Links") "sort_by"
  na_Links_base_by : NoAttr K (He.ga K "Links") "base_by"
  na_Links_whole_by : NoAttr K (He.ga K "Links") "whole_by"
  me_Links_times : Meth K (He.ga K "Links") "times" (mA K "Links" "times")
  me_Links_need_link : Meth K (He.ga K "Links") "need_link" (mA K "Links" "need_link")
  me_Links_kind : Meth K (He.ga K "Links") "kind" (mA K "Links" "kind")
  me_Links_base : Meth K (He.ga K "Links") "base" (mA K "Links" "base")
  me_Links_state : Meth K (He.ga K "Links") "state" (mA K "Links" "state")
  me_Links_base_ahead : Meth K (He.ga K "Links") "base_ahead" (mA K "Links" "base_ahead")
  me_Links_put : Meth K (He.ga K "Links") "put" (mA K "Links" "put")
  me_Links_merge : Meth K (He.ga K "Links") "merge" (mA K "Links" "merge")
  me_Links_forget : Meth K (He.ga K "Links") "forget" (mA K "Links" "forget")
  xb_Wrong : XcB K (He.ga K "Wrong") "ValueError" "ValueError.__new__" "ValueError.__init__" (tlB "ValueError")
  xf_Wrong : PySem.W.findIn K (.ref (He.ga K "Wrong")) "__init__" = some (some (.ref (mA K "Wrong" "__init__"))) ∧ PySem.W.typeIn K (.ref (mA K "Wrong" "__init__")) = some (.type "function")
  xc_Wrong : ExcC K (He.ga K "Wrong")
  xn_Wrong_at : chN K "Wrong" "at" = true
  xi_StoreError : XcI K (He.ga K "StoreError") "ValueError.__init__"
  xm_Wrong_StoreError : PySem.W.exmOne K (.ref (He.ga K "Wrong")) (.ref (He.ga K "StoreError")) = some true
  xm_Wrong_Missing : PySem.W.exmOne K (.ref (He.ga K "Wrong")) (.ref (He.ga K "Missing")) = some false
  xk_Wrong_There : PySem.W.kitOne K (.ref (He.ga K "Wrong")) (.ref (He.ga K "There")) = some false
  xk_Wrong_TooMany : PySem.W.kitOne K (.ref (He.ga K "Wrong")) (.ref (He.ga K "TooMany")) = some false
  xk_Wrong_NoBase : PySem.W.kitOne K (.ref (He.ga K "Wrong")) (.ref (He.ga K "NoBase")) = some false
  xk_Wrong_NoMoment : PySem.W.kitOne K (.ref (He.ga K "Wrong")) (.ref (He.ga K "NoMoment")) = some false
  xk_Wrong_Wrong : PySem.W.kitOne K (.ref (He.ga K "Wrong")) (.ref (He.ga K "Wrong")) = some true
  xk_Wrong_LookupError : PySem.W.kitOne K (.ref (He.ga K "Wrong")) (.type "LookupError") = some false
  xb_NoMoment : XcB K (He.ga K "NoMoment") "LookupError" "LookupError.__new__" "LookupError.__init__" (tlB "LookupError")
  xf_NoMoment : PySem.W.findIn K (.ref (He.ga K "NoMoment")) "__init__" = some (some (.ref (mA K "NoMoment" "__init__"))) ∧ PySem.W.typeIn K (.ref (mA K "NoMoment" "__init__")) = some (.type "function")
  xc_NoMoment : ExcC K (He.ga K "NoMoment")
  xn_NoMoment_time : chN K "NoMoment" "time" = true
  xi_Missing : XcI K (He.ga K "Missing") "LookupError.__init__"
  xm_NoMoment_StoreError : PySem.W.exmOne K (.ref (He.ga K "NoMoment")) (.ref (He.ga K "StoreError")) = some false
  xm_NoMoment_Missing : PySem.W.exmOne K (.ref (He.ga K "NoMoment")) (.ref (He.ga K "Missing")) = some true
  xk_NoMoment_There : PySem.W.kitOne K (.ref (He.ga K "NoMoment")) (.ref (He.ga K "There")) = some false
  xk_NoMoment_TooMany : PySem.W.kitOne K (.ref (He.ga K "NoMoment")) (.ref (He.ga K "TooMany")) = some false
  xk_NoMoment_NoBase : PySem.W.kitOne K (.ref (He.ga K "NoMoment")) (.ref (He.ga K "NoBase")) = some false
  xk_NoMoment_NoMoment : PySem.W.kitOne K (.ref (He.ga K "NoMoment")) (.ref (He.ga K "NoMoment")) = some true
  xk_NoMoment_Wrong : PySem.W.kitOne K (.ref (He.ga K "NoMoment")) (.ref (He.ga K "Wrong")) = some false
  xk_NoMoment_LookupError : PySem.W.kitOne K (.ref (He.ga K "NoMoment")) (.type "LookupError") = some true
  xb_There : XcB K (He.ga K "There") "ValueError" "ValueError.__new__" "ValueError.__init__" (tlB "ValueError")
  xf_There : PySem.W.findIn K (.ref (He.ga K "There")) "__init__" = some (some (.ref (mA K "There" "__init__"))) ∧ PySem.W.typeIn K (.ref (mA K "There" "__init__")) = some (.type "function")
  xc_There : ExcC K (He.ga K "There")
  xn_There_thing : chN K "There" "thing" = true
  xm_There_StoreError : PySem.W.exmOne K (.ref (He.ga K "There")) (.ref (He.ga K "StoreError")) = some true
  xm_There_Missing : PySem.W.exmOne K (.ref (He.ga K "There")) (.ref (He.ga K "Missing")) = some false
  xk_There_There : PySem.W.kitOne K (.ref (He.ga K "There")) (.ref (He.ga K "There")) = some true
  xk_There_TooMany : PySem.W.kitOne K (.ref (He.ga K "There")) (.ref (He.ga K "TooMany")) = some false
  xk_There_NoBase : PySem.W.kitOne K (.ref (He.ga K "There")) (.ref (He.ga K "NoBase")) = some false
  xk_There_NoMoment : PySem.W.kitOne K (.ref (He.ga K "There")) (.ref (He.ga K "NoMoment")) = some false
  xk_There_Wrong : PySem.W.kitOne K (.ref (He.ga K "There")) (.ref (He.ga K "Wrong")) = some false
  xk_There_LookupError : PySem.W.kitOne K (.ref (He.ga K "There")) (.type "LookupError") = some false
  xb_TooMany : XcB K (He.ga K "TooMany") "ValueError" "ValueError.__new__" "ValueError.__init__" (tlB "ValueError")
  xf_TooMany : PySem.W.findIn K (.ref (He.ga K "TooMany")) "__init__" = some (some (.ref (mA K "TooMany" "__init__"))) ∧ PySem.W.typeIn K (.ref (mA K "TooMany" "__init__")) = some (.type "function")
  xc_TooMany : ExcC K (He.ga K "TooMany")
  xn_TooMany_most : chN K "TooMany" "most" = true
  xm_TooMany_StoreError : PySem.W.exmOne K (.ref (He.ga K "TooMany")) (.ref (He.ga K "StoreError")) = some true
  xm_TooMany_Missing : PySem.W.exmOne K (.ref (He.ga K "TooMany")) (.ref (He.ga K "Missing")) = some false
  xk_TooMany_There : PySem.W.kitOne K (.ref (He.ga K "TooMany")) (.ref (He.ga K "There")) = some false
  xk_TooMany_TooMany : PySem.W.kitOne K (.ref (He.ga K "TooMany")) (.ref (He.ga K "TooMany")) = some true
  xk_TooMany_NoBase : PySem.W.kitOne K (.ref (He.ga K "TooMany")) (.ref (He.ga K "NoBase")) = some false
  xk_TooMany_NoMoment : PySem.W.kitOne K (.ref (He.ga K "TooMany")) (.ref (He.ga K "NoMoment")) = some false
  xk_TooMany_Wrong : PySem.W.kitOne K (.ref (He.ga K "TooMany")) (.ref (He.ga K "Wrong")) = some false
  xk_TooMany_LookupError : PySem.W.kitOne K (.ref (He.ga K "TooMany")) (.type "LookupError") = some false
  xb_NoBase : XcB K (He.ga K "NoBase") "ValueError" "ValueError.__new__" "ValueError.__init__" (tlB "ValueError")
  xf_NoBase : PySem.W.findIn K (.ref (He.ga K "NoBase")) "__init__" = some (some (.ref (mA K "NoBase" "__init__"))) ∧ PySem.W.typeIn K (.ref (mA K "NoBase" "__init__")) = some (.type "function")
  xc_NoBase : ExcC K (He.ga K "NoBase")
  xn_NoBase_time : chN K "NoBase" "time" = true
  xm_NoBase_StoreError : PySem.W.exmOne K (.ref (He.ga K "NoBase")) (.ref (He.ga K "StoreError")) = some true
  xm_NoBase_Missing : PySem.W.exmOne K (.ref (He.ga K "NoBase")) (.ref (He.ga K "Missing")) = some false
  xk_NoBase_There : PySem.W.kitOne K (.ref (He.ga K "NoBase")) (.ref (He.ga K "There")) = some false
  xk_NoBase_TooMany : PySem.W.kitOne K (.ref (He.ga K "NoBase")) (.ref (He.ga K "TooMany")) = some false
  xk_NoBase_NoBase : PySem.W.kitOne K (.ref (He.ga K "NoBase")) (.ref (He.ga K "NoBase")) = some true
  xk_NoBase_NoMoment : PySem.W.kitOne K (.ref (He.ga K "NoBase")) (.ref (He.ga K "NoMoment")) = some false
  xk_NoBase_Wrong : PySem.W.kitOne K (.ref (He.ga K "NoBase")) (.ref (He.ga K "Wrong")) = some false
  xk_NoBase_LookupError : PySem.W.kitOne K (.ref (He.ga K "NoBase")) (.type "LookupError") = some false
  b_abs : mg "abs" = none
  b_len : mg "len" = none
  b_range : mg "range" = none
  b_sorted : mg "sorted" = none
  b_isinstance : mg "isinstance" = none
  b_int : mg "int" = none
  b_bool : mg "bool" = none
  b_list : mg "list" = none
  b_repr : mg "repr" = none
  b_str : mg "str" = none
  b_dict : mg "dict" = none
  b_max : mg "max" = none
  b_LookupError : mg "LookupError" = none
theorem Txt.c {K : PySem.W.Frag} {mg : Str → Option Value} (T : Txt K mg) : TxC K := ⟨T.ct_KINDS, T.cl_Links, T.na_Links_sort_by, T.na_Links_base_by, T.na_Links_whole_by, T.xc_Wrong, T.xn_Wrong_at, T.xm_Wrong_StoreError, T.xm_Wrong_Missing, T.xk_Wrong_There, T.xk_Wrong_TooMany, T.xk_Wrong_NoBase, T.xk_Wrong_NoMoment, T.xk_Wrong_Wrong, T.xk_Wrong_LookupError, T.xc_NoMoment, T.xn_NoMoment_time, T.xm_NoMoment_StoreError, T.xm_NoMoment_Missing, T.xk_NoMoment_There, T.xk_NoMoment_TooMany, T.xk_NoMoment_NoBase, T.xk_NoMoment_NoMoment, T.xk_NoMoment_Wrong, T.xk_NoMoment_LookupError, T.xc_There, T.xn_There_thing, T.xm_There_StoreError, T.xm_There_Missing, T.xk_There_There, T.xk_There_TooMany, T.xk_There_NoBase, T.xk_There_NoMoment, T.xk_There_Wrong, T.xk_There_LookupError, T.xc_TooMany, T.xn_TooMany_most, T.xm_TooMany_StoreError, T.xm_TooMany_Missing, T.xk_TooMany_There, T.xk_TooMany_TooMany, T.xk_TooMany_NoBase, T.xk_TooMany_NoMoment, T.xk_TooMany_Wrong, T.xk_TooMany_LookupError, T.xc_NoBase, T.xn_NoBase_time, T.xm_NoBase_StoreError, T.xm_NoBase_Missing, T.xk_NoBase_There, T.xk_NoBase_TooMany, T.xk_NoBase_NoBase, T.xk_NoBase_NoMoment, T.xk_NoBase_Wrong, T.xk_NoBase_LookupError⟩
section
variable {P : Program} {w : World} {K : PySem.W.Frag} {mg : Str → Option Value} {base : Heap}
theorem sc_Wrong___init__ : FnScope ["self", "at"] ["self", "at"] (defScope s_Wrong___init__) := ⟨rfl, rfl, rfl, by decide +kernel, rfl, by decide +kernel, by decide +kernel⟩
theorem bd_Wrong___init__ (T : Txt K mg) : Binds K (fdOf K (mA K "Wrong" "__init__")) ["self", "at"] [] := T.F_Wrong___init__.bindsN fun _ _ _ _ _ _ us hl => match us, hl with | [_, _], _ => rfl
theorem ok_Wrong___init__ (T : Txt K mg) : FnX false P w K mg base CX0 1 (mA K "Wrong" "__init__") (fdOf K (mA K "Wrong" "__init__")) ["self", "at"] (spX (He.ga K "Wrong") "at") := by
  refine okX T.F_Wrong___init__ sc_Wrong___init__ lenX (fun cdv A outer s H vs Q E hgu0 hr h => ⟨_, PSs.nox ?_, pureX (msg := "not what is wanted here") rfl T.xb_Wrong (chN_ok T.xn_Wrong_at) vs H Q E h⟩)
  exact (pss_cons (ps_expr (pe_xi rfl T.cg_StoreError T.xi_StoreError (pa_cons (pv 0) (pa_cons pe_str pa_nil)))) (pss_one (ps_xs (pv 0) (pv 1))))
theorem sc_NoMoment___init__ : FnScope ["self", "time"] ["self", "time"] (defScope s_NoMoment___init__) := ⟨rfl, rfl, rfl, by decide +kernel, rfl, by decide +kernel, by decide +kernel⟩
theorem bd_NoMoment___init__ (T : Txt K mg) : Binds K (fdOf K (mA K "NoMoment" "__init__")) ["self", "time"] [] := T.F_NoMoment___init__.bindsN fun _ _ _ _ _ _ us hl => match us, hl with | [_, _], _ => rfl
theorem ok_NoMoment___init__ (T : Txt K mg) : FnX false P w K mg base CX0 1 (mA K "NoMoment" "__init__") (fdOf K (mA K "NoMoment" "__init__")) ["self", "time"] (spX (He.ga K "NoMoment") "time") := by
  refine okX T.F_NoMoment___init__ sc_NoMoment___init__ lenX (fun cdv A outer s H vs Q E hgu0 hr h => ⟨_, PSs.nox ?_, pureX (msg := "no such moment") rfl T.xb_NoMoment (chN_ok T.xn_NoMoment_time) vs H Q E h⟩)
  exact (pss_cons (ps_expr (pe_xi rfl T.cg_Missing T.xi_Missing (pa_cons (pv 0) (pa_cons pe_str pa_nil)))) (pss_one (ps_xs (pv 0) (pv 1))))
theorem sc_There___init__ : FnScope ["self", "thing"] ["self", "thing"] (defScope s_There___init__) := ⟨rfl, rfl, rfl, by decide +kernel, rfl, by decide +kernel, by decide +kernel⟩
theorem bd_There___init__ (T : Txt K mg) : Binds K (fdOf K (mA K "There" "__init__")) ["self", "thing"] [] := T.F_There___init__.bindsN fun _ _ _ _ _ _ us hl => match us, hl with | [_, _], _ => rfl
theorem ok_There___init__ (T : Txt K mg) : FnX false P w K mg base CX0 1 (mA K "There" "__init__") (fdOf K (mA K "There" "__init__")) ["self", "thing"] (spX (He.ga K "There") "thing") := by
  refine okX T.F_There___init__ sc_There___init__ lenX (fun cdv A outer s H vs Q E hgu0 hr h => ⟨_, PSs.nox ?_, pureX (msg := "it is there already") rfl T.xb_There (chN_ok T.xn_There_thing) vs H Q E h⟩)
  exact (pss_cons (ps_expr (pe_xi rfl T.cg_StoreError T.xi_StoreError (pa_cons (pv 0) (pa_cons pe_str pa_nil)))) (pss_one (ps_xs (pv 0) (pv 1))))
theorem sc_TooMany___init__ : FnScope ["self", "most"] ["self", "most"] (defScope s_TooMany___init__) := ⟨rfl, rfl, rfl, by decide +kernel, rfl, by decide +kernel, by decide +kernel⟩
theorem bd_TooMany___init__ (T : Txt K mg) : Binds K (fdOf K (mA K "TooMany" "__init__")) ["self", "most"] [] := T.F_TooMany___init__.bindsN fun _ _ _ _ _ _ us hl => match us, hl with | [_, _], _ => rfl
theorem ok_TooMany___init__ (T : Txt K mg) : FnX false P w K mg base CX0 1 (mA K "TooMany" "__init__") (fdOf K (mA K "TooMany" "__init__")) ["self", "most"] (spX (He.ga K "TooMany") "most") := by
  refine okX T.F_TooMany___init__ sc_TooMany___init__ lenX (fun cdv A outer s H vs Q E hgu0 hr h => ⟨_, PSs.nox ?_, pureX (msg := "too many") rfl T.xb_TooMany (chN_ok T.xn_TooMany_most) vs H Q E h⟩)
  exact (pss_cons (ps_expr (pe_xi rfl T.cg_StoreError T.xi_StoreError (pa_cons (pv 0) (pa_cons pe_str pa_nil)))) (pss_one (ps_xs (pv 0) (pv 1))))
theorem sc_NoBase___init__ : FnScope ["self", "time"] ["self", "time"] (defScope s_NoBase___init__) := ⟨rfl, rfl, rfl, by decide +kernel, rfl, by decide +kernel, by decide +kernel⟩
theorem bd_NoBase___init__ (T : Txt K mg) : Binds K (fdOf K (mA K "NoBase" "__init__")) ["self", "time"] [] := T.F_NoBase___init__.bindsN fun _ _ _ _ _ _ us hl => match us, hl with | [_, _], _ => rfl
theorem ok_NoBase___init__ (T : Txt K mg) : FnX false P w K mg base CX0 1 (mA K "NoBase" "__init__") (fdOf K (mA K "NoBase" "__init__")) ["self", "time"] (spX (He.ga K "NoBase") "time") := by
  refine okX T.F_NoBase___init__ sc_NoBase___init__ lenX (fun cdv A outer s H vs Q E hgu0 hr h => ⟨_, PSs.nox ?_, pureX (msg := "nothing to stand on") rfl T.xb_NoBase (chN_ok T.xn_NoBase_time) vs H Q E h⟩)
  exact (pss_cons (ps_expr (pe_xi rfl T.cg_StoreError T.xi_StoreError (pa_cons (pv 0) (pa_cons pe_str pa_nil)))) (pss_one (ps_xs (pv 0) (pv 1))))
theorem sc_l_bag : FnScope ["_law_script", "_law_cell"] ["_law_script"] (defScope s_l_bag) := ⟨rfl, rfl, rfl, by decide +kernel, rfl, by decide +kernel, by decide +kernel⟩
theorem bd_l_bag (T : Txt K mg) : Binds K (fdOf K (He.ga K "_law_bag")) ["_law_script"] [] := T.F_l_bag.bindsN fun _ _ _ _ _ _ us hl => match us, hl with | [_], _ => rfl
theorem ok_l_bag (T : Txt K mg) (nd : NDX base) : FnX false P w K mg base CX0 1 (He.ga K "_law_bag") (fdOf K (He.ga K "_law_bag")) ["_law_script"] (sp_l_bag K) := by
  refine okX T.F_l_bag sc_l_bag len_l_bag (fun cdv A outer s H vs Q E hgu0 hr h => ⟨t_l_bag K, PSs.nox ?_, pure_l_bag vs H Q E h⟩)
  exact (pss_one (ps_ret (pe_lst (pa_cons pe_int (pa_cons pe_int (pa_cons pe_int (pa_cons (pe_lc (own := [("_law_cell", 1)]) (g := (gName 1)) (tt := tYes) rfl sc_l_bag.nd (pi_list (pe_slice sl_any (pv 0) po_none (po_some pe_int))) (blkOk_by (own := [("_law_cell", 1)]) (N := ["_law_script", "_law_cell"]) (sc := defScope s_l_bag) (by decide +kernel)) (fun _ _ _ _ _ => (pg_name (i := 1) sc_l_bag.nd rfl (by first | exact Or.inl rfl | exact Or.inr rfl))) (fun _ _ _ _ _ => pts_nil) (fun _ _ _ _ _ => (pe_callB cr_abs (by rfl) T.b_abs (by decide +kernel) (pa_cons (pv 1) pa_nil)))) pa_nil)))))))
theorem sc_l_take : FnScope ["_law_bag_here", "_law_many", "_law_first", "_law_second", "_law_cell", "_law_value"] ["_law_bag_here", "_law_many"] (defScope s_l_take) := ⟨rfl, rfl, rfl, by decide +kernel, rfl, by decide +kernel, by decide +kernel⟩
theorem bd_l_take (T : Txt K mg) : Binds K (fdOf K (He.ga K "_law_take")) ["_law_bag_here", "_law_many"] [] := T.F_l_take.bindsN fun _ _ _ _ _ _ us hl => match us, hl with | [_, _], _ => rfl
theorem ok_l_take (T : Txt K mg) (nd : NDX base) : FnX false P w K mg base CX0 1 (He.ga K "_law_take") (fdOf K (He.ga K "_law_take")) ["_law_bag_here", "_law_many"] (sp_l_take K) := by
  refine okX T.F_l_take sc_l_take len_l_take (fun cdv A outer s H vs Q E hgu0 hr h => ⟨t_l_take K, PSs.nox ?_, pure_l_take vs H Q E h⟩)
  exact (pss_cons (ps_if (pt_cmpR (uo_eq hr.units) (pe_ix ix_any (pv 0) pe_int (fun _ _ => rfl)) pe_int (nomark _)) (pss_cons (ps_set (i := 4) sc_l_take.nd rfl (by first | exact Or.inl rfl | exact Or.inr rfl) pe_int)
      (pss_cons (ps_if (pt_cmpR uo_lt (pe_ix ix_any (pv 0) pe_int (fun _ _ => rfl)) (pe_callB cr_len (by rfl) T.b_len (by decide +kernel) (pa_cons (pe_ix ix_any (pv 0) pe_int (fun _ _ => rfl)) pa_nil)) (nomark _)) (pss_one (ps_set (i := 4) sc_l_take.nd rfl (by first | exact Or.inl rfl | exact Or.inr rfl) (pe_ix ix_any (pe_ix ix_any (pv 0) pe_int (fun _ _ => rfl)) (pe_ix ix_any (pv 0) pe_int (fun _ _ => rfl)) (fun _ _ => rfl)))) pss_nil)
      (pss_cons (ps_augS (pv 0) pe_int (get_any hr.u1) pe_int (ip_of io_add) (set_any hr.u1))
      (pss_cons (ps_if (pt_cmpR uo_ge (pv 4) pe_int (nomark _)) (pss_one (ps_asg (pv 4) (pg_sub (pv 0) pe_int (set_any hr.u1)))) pss_nil)
      (pss_one (ps_asg (pe_op uo_mod (pe_op uo_add (pe_op uo_add (pe_op uo_mul (pe_ix ix_any (pv 0) pe_int (fun _ _ => rfl)) pe_int) (pe_op uo_mod (pv 4) pe_int)) (pe_op uo_mul pe_int (pe_ix ix_any (pv 0) pe_int (fun _ _ => rfl)))) pe_int) (pg_sub (pv 0) pe_int (set_any hr.u1)))))))) pss_nil)
      (pss_cons (ps_if (pt_cmpR uo_gt (pe_ix ix_any (pv 0) pe_int (fun _ _ => rfl)) pe_int (nomark _)) (pss_cons (ps_set (i := 5) sc_l_take.nd rfl (by first | exact Or.inl rfl | exact Or.inr rfl) (pe_op uo_mod (pe_ix ix_any (pv 0) pe_int (fun _ _ => rfl)) (pv 1)))
      (pss_cons (ps_asg (pe_op uo_div (pe_ix ix_any (pv 0) pe_int (fun _ _ => rfl)) (pv 1)) (pg_sub (pv 0) pe_int (set_any hr.u1)))
      (pss_one (ps_ret (pv 5))))) pss_nil)
      (pss_cons (ps_set (i := 2) sc_l_take.nd rfl (by first | exact Or.inl rfl | exact Or.inr rfl) (pe_op uo_mod (pe_op uo_mul (pe_op uo_add (pe_ix ix_any (pv 0) pe_int (fun _ _ => rfl)) pe_int) pe_int) pe_int))
      (pss_cons (ps_set (i := 3) sc_l_take.nd rfl (by first | exact Or.inl rfl | exact Or.inr rfl) (pe_op uo_mod (pe_op uo_mul (pe_op uo_mod (pe_op uo_mul (pv 2) (pv 2)) pe_int) pe_int) pe_int))
      (pss_cons (ps_if (pt_cmpR uo_gt (pv 1) pe_int (nomark _)) (pss_one (ps_ret (pe_op uo_mod (pe_op uo_add (pe_op uo_mul (pv 3) pe_int) (pv 2)) (pv 1)))) pss_nil)
      (pss_one (ps_ret (pe_op uo_mod (pe_op uo_div (pv 3) pe_int) (pv 1)))))))))
theorem sc_l_name : FnScope ["_law_bag_here", "_law_words", "_law_way", "_law_letters", "_law_k"] ["_law_bag_here"] (defScope s_l_name) := ⟨rfl, rfl, rfl, by decide +kernel, rfl, by decide +kernel, by decide +kernel⟩
theorem bd_l_name (T : Txt K mg) : Binds K (fdOf K (He.ga K "_law_name")) ["_law_bag_here"] [] := T.F_l_name.bindsN fun _ _ _ _ _ _ us hl => match us, hl with | [_], _ => rfl
theorem ok_l_name (T : Txt K mg) (nd : NDX base) : FnX false P w K mg base CX0 2 (He.ga K "_law_name") (fdOf K (He.ga K "_law_name")) ["_law_bag_here"] (sp_l_name K) := by
  refine okX T.F_l_name sc_l_name len_l_name (fun cdv A outer s H vs Q E hgu0 hr h => ⟨t_l_name K, PSs.nox ?_, pure_l_name vs H Q E h⟩)
  exact (pss_cons (ps_set (i := 1) sc_l_name.nd rfl (by first | exact Or.inl rfl | exact Or.inr rfl) (pe_lst (pa_cons pe_str (pa_cons pe_str (pa_cons pe_str (pa_cons pe_str (pa_cons pe_str (pa_cons pe_str (pa_cons pe_str (pa_cons pe_str (pa_cons pe_str (pa_cons pe_str (pa_cons pe_str (pa_cons pe_str pa_nil))))))))))))))
      (pss_cons (ps_set (i := 2) sc_l_name.nd rfl (by first | exact Or.inl rfl | exact Or.inr rfl) (pe_callX (ok_l_take T nd) (fun z => nomatch z) hr rfl T.g_l_take T.F_l_take.kp (bd_l_take T) .nil pass0 (pa_cons (pv 0) (pa_cons pe_int pa_nil))))
      (pss_cons (ps_if (pt_cmpR (uo_eq hr.units) (pv 2) pe_int (nomark _)) (pss_one (ps_ret (pe_ix ix_any (pv 1) (pe_callX (ok_l_take T nd) (fun z => nomatch z) hr rfl T.g_l_take T.F_l_take.kp (bd_l_take T) .nil pass0 (pa_cons (pv 0) (pa_cons pe_int pa_nil))) (fun _ _ => rfl)))) pss_nil)
      (pss_cons (ps_set (i := 3) sc_l_name.nd rfl (by first | exact Or.inl rfl | exact Or.inr rfl) pe_str)
      (pss_one (ps_ret (pe_join pe_str (pe_lc (own := [("_law_k", 4)]) (g := (gName 4)) (tt := tYes) rfl sc_l_name.nd (pi_range1 (by rfl) T.b_range (pa_cons (pe_op uo_add pe_int (pe_callX (ok_l_take T nd) (fun z => nomatch z) hr rfl T.g_l_take T.F_l_take.kp (bd_l_take T) .nil pass0 (pa_cons (pv 0) (pa_cons (pe_ix ix_any (pe_lst (pa_cons pe_int (pa_cons pe_int (pa_cons pe_int pa_nil)))) (pe_op uo_sub (pv 2) pe_int) (fun _ _ => rfl)) pa_nil)))) pa_nil)) (blkOk_by (own := [("_law_k", 4)]) (N := ["_law_bag_here", "_law_words", "_law_way", "_law_letters", "_law_k"]) (sc := defScope s_l_name) (by decide +kernel)) (fun _ _ _ _ _ => (pg_name (i := 4) sc_l_name.nd rfl (by first | exact Or.inl rfl | exact Or.inr rfl))) (fun _ _ _ _ _ => pts_nil) (fun _ _ _ _ _ => (pe_ix ix_any (pv 3) (pe_callX (ok_l_take T nd) (fun z => nomatch z) hr rfl T.g_l_take T.F_l_take.kp (bd_l_take T) .nil pass0 (pa_cons (pv 0) (pa_cons pe_int pa_nil))) (fun _ _ => rfl)))))))))))
theorem sc_l_names : FnScope ["_law_bag_here", "_law_many", "_law_letters", "_law_some", "_law_found", "_law_name_here", "_law_k", "_law_letter"] ["_law_bag_here", "_law_many"] (defScope s_l_names) := ⟨rfl, rfl, rfl, by decide +kernel, rfl, by decide +kernel, by decide +kernel⟩
theorem bd_l_names (T : Txt K mg) : Binds K (fdOf K (He.ga K "_law_names")) ["_law_bag_here", "_law_many"] [] := T.F_l_names.bindsN fun _ _ _ _ _ _ us hl => match us, hl with | [_, _], _ => rfl
theorem ok_l_names (T : Txt K mg) (nd : NDX base) : FnX false P w K mg base CX0 3 (He.ga K "_law_names") (fdOf K (He.ga K "_law_names")) ["_law_bag_here", "_law_many"] (sp_l_names K) := by
  refine okX T.F_l_names sc_l_names len_l_names (fun cdv A outer s H vs Q E hgu0 hr h => ⟨t_l_names K, PSs.nox ?_, pure_l_names vs H Q E h⟩)
  exact (pss_cons (ps_set (i := 2) sc_l_names.nd rfl (by first | exact Or.inl rfl | exact Or.inr rfl) pe_str)
      (pss_cons (ps_setLc (i := 3) (own := [("_law_k", 6)]) (g := (gName 6)) (tt := tYes) rfl sc_l_names.nd rfl rfl (sw_true rfl rfl rfl (by decide +kernel)) (pi_range1 (by rfl) T.b_range (pa_cons (pv 1) pa_nil)) (blkOk_by (own := [("_law_k", 6)]) (N := ["_law_bag_here", "_law_many", "_law_letters", "_law_some", "_law_found", "_law_name_here", "_law_k", "_law_letter"]) (sc := defScope s_l_names) (by decide +kernel)) (fun _ _ _ _ _ => (pg_name (i := 6) sc_l_names.nd rfl (by first | exact Or.inl rfl | exact Or.inr rfl))) (fun _ _ _ _ _ => pts_nil) (fun _ _ _ _ _ => (pe_callX (ok_l_name T nd) (fun z => nomatch z) hr rfl T.g_l_name T.F_l_name.kp (bd_l_name T) .nil pass0 (pa_cons (pv 0) pa_nil))))
      (pss_cons (ps_set (i := 3) sc_l_names.nd rfl (by first | exact Or.inl rfl | exact Or.inr rfl) (pe_op uo_add (pe_op uo_add (pv 3) (pe_lc (own := [("_law_letter", 7)]) (g := (gName 7)) (tt := tYes) rfl sc_l_names.nd (pi_str (pv 2)) (blkOk_by (own := [("_law_letter", 7)]) (N := ["_law_bag_here", "_law_many", "_law_letters", "_law_some", "_law_found", "_law_name_here", "_law_k", "_law_letter"]) (sc := defScope s_l_names) (by decide +kernel)) (fun _ _ _ _ _ => (pg_name (i := 7) sc_l_names.nd rfl (by first | exact Or.inl rfl | exact Or.inr rfl))) (fun _ _ _ _ _ => pts_nil) (fun _ _ _ _ _ => (pe_op uo_add (pv 7) pe_str)))) (pe_lc (own := [("_law_letter", 7)]) (g := (gName 7)) (tt := tYes) rfl sc_l_names.nd (pi_str (pv 2)) (blkOk_by (own := [("_law_letter", 7)]) (N := ["_law_bag_here", "_law_many", "_law_letters", "_law_some", "_law_found", "_law_name_here", "_law_k", "_law_letter"]) (sc := defScope s_l_names) (by decide +kernel)) (fun _ _ _ _ _ => (pg_name (i := 7) sc_l_names.nd rfl (by first | exact Or.inl rfl | exact Or.inr rfl))) (fun _ _ _ _ _ => pts_nil) (fun _ _ _ _ _ => (pe_op uo_add pe_str (pv 7))))))
      (pss_cons (ps_set (i := 4) sc_l_names.nd rfl (by first | exact Or.inl rfl | exact Or.inr rfl) (pe_lst pa_nil))
      (pss_cons (ps_for PassesOwn.never rfl (pi_list (pv 3)) (pg_name (i := 5) sc_l_names.nd rfl (by first | exact Or.inl rfl | exact Or.inr rfl)) (pss_one (ps_if (PW.pt (pw_and (pt_cmpR (uo_notinU hr.u65) (pv 5) (pv 4) (by rfl)) (pw_and1 (pt_cmpR uo_lt (pe_callB cr_len (by rfl) T.b_len (by decide +kernel) (pa_cons (pv 4) pa_nil)) (pv 1) (nomark _))))) (pss_one (ps_expr (pe_bm PySem.F.plainAttrs_list PySem.F.slot_list_append PySem.F.type_list_append mt_append (pv 4) (pa_cons (pv 5) pa_nil)))) pss_nil)))
      (pss_one (ps_ret (pv 4))))))))
theorem sc_Links___init__ : FnScope ["self"] ["self"] (defScope s_Links___init__) := ⟨rfl, rfl, rfl, by decide +kernel, rfl, by decide +kernel, by decide +kernel⟩
theorem bd_Links___init__ (T : Txt K mg) : Binds K (fdOf K (mA K "Links" "__init__")) ["self"] [] := T.F_Links___init__.bindsN fun _ _ _ _ _ _ us hl => match us, hl with | [_], _ => rfl
theorem ok_Links___init__ (T : Txt K mg) (nd : NDX base) : FnX false P w K mg base CX0 1 (mA K "Links" "__init__") (fdOf K (mA K "Links" "__init__")) ["self"] (sp_Links___init__ K) := by
  refine okX T.F_Links___init__ sc_Links___init__ len_Links___init__ (fun cdv A outer s H vs Q E hgu0 hr h => ⟨t_Links___init__ K, PSs.nox ?_, pure_Links___init__ T.c vs H Q E h⟩)
  exact (pss_cons (ps_fld (pv 0) pe_dnewK (by rfl))
      (pss_cons (ps_fld (pv 0) pe_dnewK (by rfl))
      (pss_one (ps_fld (pv 0) pe_dnewK (by rfl)))))
theorem sc_Links_times : FnScope ["self"] ["self"] (defScope s_Links_times) := ⟨rfl, rfl, rfl, by decide +kernel, rfl, by decide +kernel, by decide +kernel⟩
theorem bd_Links_times (T : Txt K mg) : Binds K (fdOf K (mA K "Links" "times")) ["self"] [] := T.F_Links_times.bindsN fun _ _ _ _ _ _ us hl => match us, hl with | [_], _ => rfl
theorem ok_Links_times (T : Txt K mg) (nd : NDX base) : FnX false P w K mg base CX0 1 (mA K "Links" "times") (fdOf K (mA K "Links" "times")) ["self"] (sp_Links_times K) := by
  refine okX T.F_Links_times sc_Links_times len_Links_times (fun cdv A outer s H vs Q E hgu0 hr h => ⟨t_Links_times K, PSs.nox ?_, pure_Links_times T.c vs H Q E h⟩)
  exact (pss_one (ps_ret (pe_callB (cr_sortedDI rfl) (by rfl) T.b_sorted (by decide +kernel) (pa_cons (pe_fld (pv 0) rfl) pa_nil))))
theorem sc_fit_or_wrong : FnScope ["at", "good"] ["at", "good"] (defScope s_fit_or_wrong) := ⟨rfl, rfl, rfl, by decide +kernel, rfl, by decide +kernel, by decide +kernel⟩
theorem bd_fit_or_wrong (T : Txt K mg) : Binds K (fdOf K (He.ga K "fit_or_wrong")) ["at", "good"] [] := T.F_fit_or_wrong.bindsN fun _ _ _ _ _ _ us hl => match us, hl with | [_, _], _ => rfl
theorem ok_fit_or_wrong (T : Txt K mg) (nd : NDX base) : FnX false P w K mg base (L2.CX P w) 3 (He.ga K "fit_or_wrong") (fdOf K (He.ga K "fit_or_wrong")) ["at", "good"] (sp_fit_or_wrong K) := by
  refine okW T.F_fit_or_wrong sc_fit_or_wrong len_fit_or_wrong (fun cdv A outer s H vs Q E hgu0 hr h tk pw => ⟨t_fit_or_wrong K (WT E), ?_, pure_fit_or_wrong T.c vs H Q E h⟩)
  exact (pss_one (ps_if (pt_not (pt_val (pv 1))) (pss_one (ps_rz rfl tk T.xb_Wrong T.xf_Wrong.1 T.xf_Wrong.2 (ok_Wrong___init__ T) (hr.mono (by decide)) (bd_Wrong___init__ T) (fun _ _ _ _ _ _ _ z => z.elim) rfl T.cg_Wrong (pv 0))) pss_nil))
theorem sc_is_whole : FnScope ["thing"] ["thing"] (defScope s_is_whole) := ⟨rfl, rfl, rfl, by decide +kernel, rfl, by decide +kernel, by decide +kernel⟩
theorem bd_is_whole (T : Txt K mg) : Binds K (fdOf K (He.ga K "is_whole")) ["thing"] [] := T.F_is_whole.bindsN fun _ _ _ _ _ _ us hl => match us, hl with | [_], _ => rfl
theorem ok_is_whole (T : Txt K mg) (nd : NDX base) : FnX false P w K mg base CX0 1 (He.ga K "is_whole") (fdOf K (He.ga K "is_whole")) ["thing"] (sp_is_whole K) := by
  refine okX T.F_is_whole sc_is_whole len_is_whole (fun cdv A outer s H vs Q E hgu0 hr h => ⟨t_is_whole K, PSs.nox ?_, pure_is_whole vs H Q E h⟩)
  exact (pss_one (ps_ret (pe_and (pe_callB cr_isiQ (by rfl) T.b_isinstance (by decide +kernel) (pa_cons (pv 0) (pa_cons (pe_bltn (by rfl) T.b_int (by decide +kernel) rfl) pa_nil))) (pe_one (pe_not (pe_callB cr_isiQ (by rfl) T.b_isinstance (by decide +kernel) (pa_cons (pv 0) (pa_cons (pe_bltn (by rfl) T.b_bool (by decide +kernel) rfl) pa_nil))))))))
theorem sc_is_time : FnScope ["thing"] ["thing"] (defScope s_is_time) := ⟨rfl, rfl, rfl, by decide +kernel, rfl, by decide +kernel, by decide +kernel⟩
theorem bd_is_time (T : Txt K mg) : Binds K (fdOf K (He.ga K "is_time")) ["thing"] [] := T.F_is_time.bindsN fun _ _ _ _ _ _ us hl => match us, hl with | [_], _ => rfl
theorem ok_is_time (T : Txt K mg) (nd : NDX base) : FnX false P w K mg base CX0 2 (He.ga K "is_time") (fdOf K (He.ga K "is_time")) ["thing"] (sp_is_time K) := by
  refine okX T.F_is_time sc_is_time len_is_time (fun cdv A outer s H vs Q E hgu0 hr h => ⟨t_is_time K, PSs.nox ?_, pure_is_time vs H Q E h⟩)
  exact (pss_one (ps_ret (pe_and (pe_callX (ok_is_whole T nd) (fun z => nomatch z) hr rfl T.g_is_whole T.F_is_whole.kp (bd_is_whole T) .nil pass0 (pa_cons (pv 0) pa_nil)) (pe_one (pe_chain uo_le uo_le pe_int (pv 0) (pe_globI rfl T.c_MOST_TIME))))))
theorem sc_Links_need_link : FnScope ["self", "time"] ["self", "time"] (defScope s_Links_need_link) := ⟨rfl, rfl, rfl, by decide +kernel, rfl, by decide +kernel, by decide +kernel⟩
theorem bd_Links_need_link (T : Txt K mg) : Binds K (fdOf K (mA K "Links" "need_link")) ["self", "time"] [] := T.F_Links_need_link.bindsN fun _ _ _ _ _ _ us hl => match us, hl with | [_, _], _ => rfl
theorem ok_Links_need_link (T : Txt K mg) (nd : NDX base) : FnX false P w K mg base (L2.CX P w) 4 (mA K "Links" "need_link") (fdOf K (mA K "Links" "need_link")) ["self", "time"] (sp_Links_need_link K) := by
  refine okW T.F_Links_need_link sc_Links_need_link len_Links_need_link (fun cdv A outer s H vs Q E hgu0 hr h tk pw => ⟨t_Links_need_link K (WT E), ?_, pure_Links_need_link T.c vs H Q E h⟩)
  exact (pss_cons (ps_expr (pe_callW (ok_fit_or_wrong T nd) (fun z => nomatch z) hr rfl T.g_fit_or_wrong T.F_fit_or_wrong.kp (bd_fit_or_wrong T) .nil (fun σ => passAt tk σ) (pa_cons pe_int (pa_cons (pe_callX (ok_is_time T nd) (fun z => nomatch z) (hr.mono (by decide)) rfl T.g_is_time T.F_is_time.kp (bd_is_time T) .nil pass0 (pa_cons (pv 1) pa_nil)) pa_nil))))
      (pss_one (ps_if (pt_cmpR (uo_notinU hr.u65) (pv 1) (pe_fld (pv 0) rfl) (by rfl)) (pss_one (ps_rz rfl tk T.xb_NoMoment T.xf_NoMoment.1 T.xf_NoMoment.2 (ok_NoMoment___init__ T) (hr.mono (by decide)) (bd_NoMoment___init__ T) (fun _ _ _ _ _ _ _ z => z.elim) rfl T.cg_NoMoment (pv 1))) pss_nil)))
theorem sc_Links_kind : FnScope ["self", "time"] ["self", "time"] (defScope s_Links_kind) := ⟨rfl, rfl, rfl, by decide +kernel, rfl, by decide +kernel, by decide +kernel⟩
theorem bd_Links_kind (T : Txt K mg) : Binds K (fdOf K (mA K "Links" "kind")) ["self", "time"] [] := T.F_Links_kind.bindsN fun _ _ _ _ _ _ us hl => match us, hl with | [_, _], _ => rfl
theorem ok_Links_kind (T : Txt K mg) (nd : NDX base) : FnX false P w K mg base (L2.CX P w) 5 (mA K "Links" "kind") (fdOf K (mA K "Links" "kind")) ["self", "time"] (sp_Links_kind K) := by
  refine okW T.F_Links_kind sc_Links_kind len_Links_kind (fun cdv A outer s H vs Q E hgu0 hr h tk pw => ⟨t_Links_kind K (WT E), ?_, pure_Links_kind T.c vs H Q E h⟩)
  exact (pss_cons (ps_expr (pe_methW (pv 0) T.cl_Links T.me_Links_need_link (ok_Links_need_link T nd) (fun z => nomatch z) hr (bd_Links_need_link T) .nil (fun σ => passAt tk σ) (pa_cons (pv 1) pa_nil)))
      (pss_one (ps_ret (pe_ix (ix_dk hr.u1) (pe_fld (pv 0) rfl) (pv 1) (fun _ _ => rfl)))))
theorem sc_Links_base : FnScope ["self", "time"] ["self", "time"] (defScope s_Links_base) := ⟨rfl, rfl, rfl, by decide +kernel, rfl, by decide +kernel, by decide +kernel⟩
theorem bd_Links_base (T : Txt K mg) : Binds K (fdOf K (mA K "Links" "base")) ["self", "time"] [] := T.F_Links_base.bindsN fun _ _ _ _ _ _ us hl => match us, hl with | [_, _], _ => rfl
theorem ok_Links_base (T : Txt K mg) (nd : NDX base) : FnX false P w K mg base (L2.CX P w) 5 (mA K "Links" "base") (fdOf K (mA K "Links" "base")) ["self", "time"] (sp_Links_base K) := by
  refine okW T.F_Links_base sc_Links_base len_Links_base (fun cdv A outer s H vs Q E hgu0 hr h tk pw => ⟨t_Links_base K (WT E), ?_, pure_Links_base T.c vs H Q E h⟩)
  exact (pss_cons (ps_expr (pe_methW (pv 0) T.cl_Links T.me_Links_need_link (ok_Links_need_link T nd) (fun z => nomatch z) hr (bd_Links_need_link T) .nil (fun σ => passAt tk σ) (pa_cons (pv 1) pa_nil)))
      (pss_one (ps_ret (pe_ix (ix_dk hr.u1) (pe_fld (pv 0) rfl) (pv 1) (fun _ _ => rfl)))))
theorem sc_own_state : FnScope ["state", "name"] ["state"] (defScope s_own_state) := ⟨rfl, rfl, rfl, by decide +kernel, rfl, by decide +kernel, by decide +kernel⟩
theorem bd_own_state (T : Txt K mg) : Binds K (fdOf K (He.ga K "own_state")) ["state"] [] := T.F_own_state.bindsN fun _ _ _ _ _ _ us hl => match us, hl with | [_], _ => rfl
theorem ok_own_state (T : Txt K mg) (nd : NDX base) : FnX false P w K mg base CX0 1 (He.ga K "own_state") (fdOf K (He.ga K "own_state")) ["state"] (sp_own_state K) := by
  refine okX T.F_own_state sc_own_state len_own_state (fun cdv A outer s H vs Q E hgu0 hr h => ⟨t_own_state K, PSs.nox ?_, pure_own_state vs H Q E h⟩)
  exact (pss_one (ps_ret (pe_fz (pe_dc (own := [("name", 1)]) (g := (gName 1)) (tt := tYes) rfl sc_own_state.nd (pi_list (pe_callB (cr_sortedDS rfl) (by rfl) T.b_sorted (by decide +kernel) (pa_cons (pv 0) pa_nil))) (blkOk_by (own := [("name", 1)]) (N := ["state", "name"]) (sc := defScope s_own_state) (by decide +kernel)) (fun _ _ _ _ _ => (pg_name (i := 1) sc_own_state.nd rfl (by first | exact Or.inl rfl | exact Or.inr rfl))) (fun _ _ _ _ _ => pts_nil) (fun _ _ _ _ _ => (pv 1)) (fun _ _ _ _ _ => (pe_callTy cr_list (by rfl) T.b_list (by decide +kernel) (pa_cons (pe_ix (ix_dk hr.u1) (pv 0) (pv 1) (fun _ _ => rfl)) pa_nil)))))))
theorem sc_Links_state : FnScope ["self", "time"] ["self", "time"] (defScope s_Links_state) := ⟨rfl, rfl, rfl, by decide +kernel, rfl, by decide +kernel, by decide +kernel⟩
theorem bd_Links_state (T : Txt K mg) : Binds K (fdOf K (mA K "Links" "state")) ["self", "time"] [] := T.F_Links_state.bindsN fun _ _ _ _ _ _ us hl => match us, hl with | [_, _], _ => rfl
theorem ok_Links_state (T : Txt K mg) (nd : NDX base) : FnX false P w K mg base (L2.CX P w) 5 (mA K "Links" "state") (fdOf K (mA K "Links" "state")) ["self", "time"] (sp_Links_state K) := by
  refine okW T.F_Links_state sc_Links_state len_Links_state (fun cdv A outer s H vs Q E hgu0 hr h tk pw => ⟨t_Links_state K (WT E), ?_, pure_Links_state T.c vs H Q E h⟩)
  exact (pss_cons (ps_expr (pe_methW (pv 0) T.cl_Links T.me_Links_need_link (ok_Links_need_link T nd) (fun z => nomatch z) hr (bd_Links_need_link T) .nil (fun σ => passAt tk σ) (pa_cons (pv 1) pa_nil)))
      (pss_one (ps_ret (pe_callX (ok_own_state T nd) (fun z => nomatch z) (hr.mono (by decide)) rfl T.g_own_state T.F_own_state.kp (bd_own_state T) .nil pass0 (pa_cons (pe_ix (ix_dk hr.u1) (pe_fld (pv 0) rfl) (pv 1) (fun _ _ => rfl)) pa_nil)))))
theorem sc_l_seen : FnScope ["_law_here", "_law_but", "_law_one"] ["_law_here", "_law_but"] (defScope s_l_seen) := ⟨rfl, rfl, rfl, by decide +kernel, rfl, by decide +kernel, by decide +kernel⟩
theorem bd_l_seen (T : Txt K mg) : Binds K (fdOf K (He.ga K "_law_seen")) ["_law_here", "_law_but"] [] := T.F_l_seen.bindsN fun _ _ _ _ _ _ us hl => match us, hl with | [_, _], _ => rfl
theorem ok_l_seen (T : Txt K mg) (nd : NDX base) : FnX false P w K mg base (L2.CX P w) 6 (He.ga K "_law_seen") (fdOf K (He.ga K "_law_seen")) ["_law_here", "_law_but"] (sp_l_seen K) := by
  refine okW T.F_l_seen sc_l_seen len_l_seen (fun cdv A outer s H vs Q E hgu0 hr h tk pw => ⟨t_l_seen K (WT E), ?_, pure_l_seen T.c vs H Q E h⟩)
  exact (pss_one (ps_ret (pe_lc (own := [("_law_one", 2)]) (g := (gName 2)) (tt := (tTest (tOp (uNe K) (tVar 2) (tVar 1)))) rfl sc_l_seen.nd (pi_list (pe_methW0 (pv 0) T.cl_Links T.me_Links_times (ok_Links_times T nd) (fun z => nomatch z) (hr.mono (by decide)) (bd_Links_times T) .nil (fun _ => pas0))) (blkOk_by (own := [("_law_one", 2)]) (N := ["_law_here", "_law_but", "_law_one"]) (sc := defScope s_l_seen) (by decide +kernel)) (fun _ _ _ _ _ => (pg_name (i := 2) sc_l_seen.nd rfl (by first | exact Or.inl rfl | exact Or.inr rfl))) (fun _ _ _ _ _ => (pts_one (pt_cmpR (uo_ne hr.units) (pv 2) (pv 1) (nomark _)))) (fun _ _ _ _ _ => (pe_tup (pa_cons (pv 2) (pa_cons (pe_methW (pv 0) T.cl_Links T.me_Links_kind (ok_Links_kind T nd) (fun z => nomatch z) hr (bd_Links_kind T) .nil (fun _ => pasF) (pa_cons (pv 2) pa_nil)) (pa_cons (pe_methW (pv 0) T.cl_Links T.me_Links_base (ok_Links_base T nd) (fun z => nomatch z) hr (bd_Links_base T) .nil (fun _ => pasF) (pa_cons (pv 2) pa_nil)) (pa_cons (pe_methW (pv 0) T.cl_Links T.me_Links_state (ok_Links_state T nd) (fun z => nomatch z) hr (bd_Links_state T) .nil (fun _ => pasF) (pa_cons (pv 2) pa_nil)) pa_nil)))))))))
theorem sc_l_alike : FnScope ["_law_found", "_law_due_here"] ["_law_found", "_law_due_here"] (defScope s_l_alike) := ⟨rfl, rfl, rfl, by decide +kernel, rfl, by decide +kernel, by decide +kernel⟩
theorem bd_l_alike (T : Txt K mg) : Binds K (fdOf K (He.ga K "_law_alike")) ["_law_found", "_law_due_here"] [] := T.F_l_alike.bindsN fun _ _ _ _ _ _ us hl => match us, hl with | [_, _], _ => rfl
theorem ok_l_alike (T : Txt K mg) (nd : NDX base) : FnX true P w K mg base CX0 1 (He.ga K "_law_alike") (fdOf K (He.ga K "_law_alike")) ["_law_found", "_law_due_here"] (sp_l_alike K) := by
  refine okX T.F_l_alike sc_l_alike len_l_alike (fun cdv A outer s H vs Q E hgu0 hr h => ⟨t_l_alike K, PSs.nox ?_, pure_l_alike vs H Q E h⟩)
  have hgu : (A.deeper (envOfC "_law_alike" (defScope s_l_alike) s.heap.objs.size (He.ga K "_law_alike") cdv)).guards = some [] := hgu0 rfl
  exact (pss_one (ps_ret (pe_and (pe_cmpR (uo_eqQ (units128 hr)) (pv 0) (pv 1) (nomark _)) (pe_one (pe_cmpR (uo_eqQ (units128 hr)) (pe_callB (cr_reprQ nd.2 hgu hr.units) (by rfl) T.b_repr (by decide +kernel) (pa_cons (pv 0) pa_nil)) (pe_callB (cr_reprQ nd.2 hgu hr.units) (by rfl) T.b_repr (by decide +kernel) (pa_cons (pv 1) pa_nil)) (nomark _))))))
theorem sc_is_name : FnScope ["thing", "letter"] ["thing"] (defScope s_is_name) := ⟨rfl, rfl, rfl, by decide +kernel, rfl, by decide +kernel, by decide +kernel⟩
theorem bd_is_name (T : Txt K mg) : Binds K (fdOf K (He.ga K "is_name")) ["thing"] [] := T.F_is_name.bindsN fun _ _ _ _ _ _ us hl => match us, hl with | [_], _ => rfl
theorem ok_is_name (T : Txt K mg) (nd : NDX base) : FnX false P w K mg base CX0 1 (He.ga K "is_name") (fdOf K (He.ga K "is_name")) ["thing"] (sp_is_name K) := by
  refine okX T.F_is_name sc_is_name len_is_name (fun cdv A outer s H vs Q E hgu0 hr h => ⟨t_is_name K, PSs.nox ?_, pure_is_name vs H Q E h⟩)
  exact (pss_cons (ps_if (PW.pt (pw_or (pt_not (pt_val (pe_callB cr_isiQ (by rfl) T.b_isinstance (by decide +kernel) (pa_cons (pv 0) (pa_cons (pe_bltn (by rfl) T.b_str (by decide +kernel) rfl) pa_nil))))) (pw_or1 (pt_not (pt_chain uo_le uo_le pe_int (pe_callB cr_len (by rfl) T.b_len (by decide +kernel) (pa_cons (pv 0) pa_nil)) (pe_globI rfl T.c_LONGEST)))))) (pss_one (ps_ret pe_bl)) pss_nil)
      (pss_cons (ps_for PassesOwn.never rfl (pi_str (pv 0)) (pg_name (i := 1) sc_is_name.nd rfl (by first | exact Or.inl rfl | exact Or.inr rfl)) (pss_one (ps_if (pt_cmpR (uo_notinU hr.u65) (pv 1) (pe_globS rfl T.c_LETTERS) (by rfl)) (pss_one (ps_ret pe_bl)) pss_nil)))
      (pss_one (ps_ret pe_bl))))
theorem sc_is_seal : FnScope ["thing", "rest", "turn"] ["thing"] (defScope s_is_seal) := ⟨rfl, rfl, rfl, by decide +kernel, rfl, by decide +kernel, by decide +kernel⟩
theorem bd_is_seal (T : Txt K mg) : Binds K (fdOf K (He.ga K "is_seal")) ["thing"] [] := T.F_is_seal.bindsN fun _ _ _ _ _ _ us hl => match us, hl with | [_], _ => rfl
theorem ok_is_seal (T : Txt K mg) (nd : NDX base) : FnX false P w K mg base CX0 2 (He.ga K "is_seal") (fdOf K (He.ga K "is_seal")) ["thing"] (sp_is_seal K) := by
  refine okX T.F_is_seal sc_is_seal len_is_seal (fun cdv A outer s H vs Q E hgu0 hr h => ⟨t_is_seal K, PSs.nox ?_, pure_is_seal vs H Q E h⟩)
  exact (pss_cons (ps_if (PW.pt (pw_or (pt_not (pt_val (pe_callX (ok_is_whole T nd) (fun z => nomatch z) hr rfl T.g_is_whole T.F_is_whole.kp (bd_is_whole T) .nil pass0 (pa_cons (pv 0) pa_nil)))) (pw_or1 (pt_cmpR uo_lt (pv 0) pe_int (nomark _))))) (pss_one (ps_ret pe_bl)) pss_nil)
      (pss_cons (ps_set (i := 1) sc_is_seal.nd rfl (by first | exact Or.inl rfl | exact Or.inr rfl) (pv 0))
      (pss_cons (ps_for PassesOwn.never rfl (pi_range1 (by rfl) T.b_range (pa_cons (pe_globI rfl T.c_MOST_PIECE) pa_nil)) (pg_name (i := 2) sc_is_seal.nd rfl (by first | exact Or.inl rfl | exact Or.inr rfl)) (pss_cons (ps_if (pt_cmpR (uo_eq hr.units) (pe_op uo_mod (pv 1) (pe_globI rfl T.c_BASE)) pe_int (nomark _)) (pss_one (ps_ret pe_bl)) pss_nil)
      (pss_cons (ps_aug (i := 1) sc_is_seal.nd rfl (by first | exact Or.inl rfl | exact Or.inr rfl) (pe_globI rfl T.c_BASE) (ip_of io_div))
      (pss_one (ps_if (pt_cmpR (uo_eq hr.units) (pv 1) pe_int (nomark _)) (pss_one (ps_ret pe_bl)) pss_nil)))))
      (pss_one (ps_ret pe_bl)))))
theorem sc_are_seals : FnScope ["thing", "seal"] ["thing"] (defScope s_are_seals) := ⟨rfl, rfl, rfl, by decide +kernel, rfl, by decide +kernel, by decide +kernel⟩
theorem bd_are_seals (T : Txt K mg) : Binds K (fdOf K (He.ga K "are_seals")) ["thing"] [] := T.F_are_seals.bindsN fun _ _ _ _ _ _ us hl => match us, hl with | [_], _ => rfl
theorem ok_are_seals (T : Txt K mg) (nd : NDX base) : FnX false P w K mg base CX0 3 (He.ga K "are_seals") (fdOf K (He.ga K "are_seals")) ["thing"] (sp_are_seals K) := by
  refine okX T.F_are_seals sc_are_seals len_are_seals (fun cdv A outer s H vs Q E hgu0 hr h => ⟨t_are_seals K, PSs.nox ?_, pure_are_seals vs H Q E h⟩)
  exact (pss_cons (ps_if (PW.pt (pw_or (pt_not (pt_val (pe_callB cr_isiQ (by rfl) T.b_isinstance (by decide +kernel) (pa_cons (pv 0) (pa_cons (pe_bltn (by rfl) T.b_list (by decide +kernel) rfl) pa_nil))))) (pw_or1 (pt_cmpR uo_gt (pe_callB cr_len (by rfl) T.b_len (by decide +kernel) (pa_cons (pv 0) pa_nil)) (pe_globI rfl T.c_MOST_CONTENT) (nomark _))))) (pss_one (ps_ret pe_bl)) pss_nil)
      (pss_cons (ps_for PassesOwn.never rfl (pi_list (pv 0)) (pg_name (i := 1) sc_are_seals.nd rfl (by first | exact Or.inl rfl | exact Or.inr rfl)) (pss_one (ps_if (pt_not (pt_val (pe_callX (ok_is_seal T nd) (fun z => nomatch z) hr rfl T.g_is_seal T.F_is_seal.kp (bd_is_seal T) .nil pass0 (pa_cons (pv 1) pa_nil)))) (pss_one (ps_ret pe_bl)) pss_nil)))
      (pss_one (ps_ret pe_bl))))
theorem sc_is_state : FnScope ["thing", "name"] ["thing"] (defScope s_is_state) := ⟨rfl, rfl, rfl, by decide +kernel, rfl, by decide +kernel, by decide +kernel⟩
theorem bd_is_state (T : Txt K mg) : Binds K (fdOf K (He.ga K "is_state")) ["thing"] [] := T.F_is_state.bindsN fun _ _ _ _ _ _ us hl => match us, hl with | [_], _ => rfl
theorem ok_is_state (T : Txt K mg) (nd : NDX base) : FnX false P w K mg base CX0 4 (He.ga K "is_state") (fdOf K (He.ga K "is_state")) ["thing"] (sp_is_state K) := by
  refine okX T.F_is_state sc_is_state len_is_state (fun cdv A outer s H vs Q E hgu0 hr h => ⟨t_is_state K, PSs.nox ?_, pure_is_state vs H Q E h⟩)
  exact (pss_cons (ps_if (PW.pt (pw_or (pt_not (pt_val (pe_callB cr_isiQ (by rfl) T.b_isinstance (by decide +kernel) (pa_cons (pv 0) (pa_cons (pe_bltn (by rfl) T.b_dict (by decide +kernel) rfl) pa_nil))))) (pw_or1 (pt_cmpR uo_gt (pe_callB cr_len (by rfl) T.b_len (by decide +kernel) (pa_cons (pv 0) pa_nil)) (pe_globI rfl T.c_MOST_FILES) (nomark _))))) (pss_one (ps_ret pe_bl)) pss_nil)
      (pss_cons (ps_lk (ps_for PassesOwn.never rfl (pi_keys (pv 0)) (pg_name (i := 1) sc_is_state.nd rfl (by first | exact Or.inl rfl | exact Or.inr rfl)) (pss_one (ps_if (PW.pt (pw_or (pt_not (pt_val (pe_callX (ok_is_name T nd) (fun z => nomatch z) (hr.mono (by decide)) rfl T.g_is_name T.F_is_name.kp (bd_is_name T) .nil pass0 (pa_cons (pv 1) pa_nil)))) (pw_or1 (pt_not (pt_val (pe_callX (ok_are_seals T nd) (fun z => nomatch z) hr rfl T.g_are_seals T.F_are_seals.kp (bd_are_seals T) .nil pass0 (pa_cons (pe_ix (ix_dk hr.u1) (pv 0) (pv 1) (fun _ _ => rfl)) pa_nil))))))) (pss_one (ps_ret pe_bl)) pss_nil))))
      (pss_one (ps_ret pe_bl))))
theorem sc_Links_base_ahead : FnScope ["self", "time", "kind", "ahead", "one"] ["self", "time", "kind"] (defScope s_Links_base_ahead) := ⟨rfl, rfl, rfl, by decide +kernel, rfl, by decide +kernel, by decide +kernel⟩
theorem bd_Links_base_ahead (T : Txt K mg) : Binds K (fdOf K (mA K "Links" "base_ahead")) ["self", "time", "kind"] [] := T.F_Links_base_ahead.bindsN fun _ _ _ _ _ _ us hl => match us, hl with | [_, _, _], _ => rfl
theorem ok_Links_base_ahead (T : Txt K mg) (nd : NDX base) : FnX false P w K mg base (L2.CX P w) 3 (mA K "Links" "base_ahead") (fdOf K (mA K "Links" "base_ahead")) ["self", "time", "kind"] (sp_Links_base_ahead K) := by
  refine okW T.F_Links_base_ahead sc_Links_base_ahead len_Links_base_ahead (fun cdv A outer s H vs Q E hgu0 hr h tk pw => ⟨t_Links_base_ahead K (WT E), ?_, pure_Links_base_ahead T.c vs H Q E h⟩)
  exact (pss_cons (ps_if (pt_cmpR (uo_inU hr.u65) (pv 1) (pe_fld (pv 0) rfl) (by rfl)) (pss_one (ps_rz rfl tk T.xb_There T.xf_There.1 T.xf_There.2 (ok_There___init__ T) (hr.mono (by decide)) (bd_There___init__ T) (fun _ _ _ _ _ _ _ z => z.elim) rfl T.cg_There (pv 1))) pss_nil)
      (pss_cons (ps_if (pt_cmpR uo_ge (pe_callB cr_len (by rfl) T.b_len (by decide +kernel) (pa_cons (pe_fld (pv 0) rfl) pa_nil)) (pe_globI rfl T.c_MOST_LINKS) (nomark _)) (pss_one (ps_rz rfl tk T.xb_TooMany T.xf_TooMany.1 T.xf_TooMany.2 (ok_TooMany___init__ T) (hr.mono (by decide)) (bd_TooMany___init__ T) (fun _ _ _ _ _ _ _ z => z.elim) rfl T.cg_TooMany (pe_globI rfl T.c_MOST_LINKS))) pss_nil)
      (pss_cons (ps_if (pt_cmpR (uo_eq hr.units) (pv 2) (pe_globS rfl T.c_FULL) (nomark _)) (pss_one (ps_ret pe_non)) pss_nil)
      (pss_cons (ps_lk (ps_setLc (i := 3) (own := [("one", 4)]) (g := (gName 4)) (tt := (tAnd (tTest (tOp uLt (tVar 4) (tVar 1))) (tOr (tTest (tOp (uEq K) (tVar 2) (tC (.str "step")))) (tTest (tOp (uEq K) (tOp rIxK (tFld K (tVar 0) "sort_by") (tVar 4)) (tC (.str "full"))))))) rfl sc_Links_base_ahead.nd rfl rfl (sw_true rfl rfl rfl (by decide +kernel)) (pi_keys (pe_fld (pv 0) rfl)) (blkOk_by (own := [("one", 4)]) (N := ["self", "time", "kind", "ahead", "one"]) (sc := defScope s_Links_base_ahead) (by decide +kernel)) (fun _ _ _ _ _ => (pg_name (i := 4) sc_Links_base_ahead.nd rfl (by first | exact Or.inl rfl | exact Or.inr rfl))) (fun _ _ _ _ _ => (pts_one (PW.pt (pw_and (pt_cmpR uo_lt (pv 4) (pv 1) (nomark _)) (pw_and1 (PW.pt (pw_or (pt_cmpR (uo_eq hr.units) (pv 2) pe_str (nomark _)) (pw_or1 (pt_cmpR (uo_eq hr.units) (pe_ix (ix_dk hr.u1) (pe_fld (pv 0) rfl) (pv 4) (fun _ _ => rfl)) (pe_globS rfl T.c_FULL) (nomark _)))))))))) (fun _ _ _ _ _ => (pv 4))))
      (pss_cons (ps_if (pt_cmpR (uo_eq hr.units) (pv 3) (pe_lst pa_nil) (nomark _)) (pss_one (ps_rz rfl tk T.xb_NoBase T.xf_NoBase.1 T.xf_NoBase.2 (ok_NoBase___init__ T) (hr.mono (by decide)) (bd_NoBase___init__ T) (fun _ _ _ _ _ _ _ z => z.elim) rfl T.cg_NoBase (pv 1))) pss_nil)
      (pss_one (ps_ret (pe_callB (cr_max rfl) (by rfl) T.b_max (by decide +kernel) (pa_cons (pv 3) pa_nil)))))))))
theorem sc_Links_put : FnScope ["self", "time", "state", "kind", "base"] ["self", "time", "state", "kind"] (defScope s_Links_put) := ⟨rfl, rfl, rfl, by decide +kernel, rfl, by decide +kernel, by decide +kernel⟩
theorem bd0_Links_put (T : Txt K mg) : ∃ ds, Vals [.str "full"] ds ∧ Binds K (fdOf K (mA K "Links" "put")) ["self", "time", "state", "kind"] ds := T.F_Links_put.binds0 3 (by decide) rfl fun _ _ _ _ _ _ us ks h1 h2 => match us, ks, h1, h2 with | [_, _, _], [_], _, _ => ⟨_, _, _, _, _, _, rfl, rfl, rfl⟩
theorem kb_Links_put_kind (T : Txt K mg) : ∃ mv : List Value, KBn K (fdOf K (mA K "Links" "put")) ["self", "time", "state", "kind"] 3 ["kind"] (fun us ws => (fun us mv ws => us ++ (ws ++ mv)) us mv ws) (fun vs zs => vs ++ (zs ++ [])) :=
  T.F_Links_put.kbinds0 3 ["kind"] [] (fun us mv ws => us ++ (ws ++ mv)) (by decide) (by simp) (fun r1 r2 r3 => r1.append (r3.append r2)) (fun _ _ _ _ _ _ us mv ws h1 h2 h3 => match us, mv, ws, h1, h2, h3 with | [_, _, _], [], [_], _, _, _ => rfl)
theorem ok_Links_put (T : Txt K mg) (nd : NDX base) : FnX false P w K mg base (L2.CX P w) 5 (mA K "Links" "put") (fdOf K (mA K "Links" "put")) ["self", "time", "state", "kind"] (sp_Links_put K) := by
  refine okW T.F_Links_put sc_Links_put len_Links_put (fun cdv A outer s H vs Q E hgu0 hr h tk pw => ⟨t_Links_put K (WT E), ?_, pure_Links_put T.c vs H Q E h⟩)
  exact (pss_cons (ps_expr (pe_callW (ok_fit_or_wrong T nd) (fun z => nomatch z) (hr.mono (by decide)) rfl T.g_fit_or_wrong T.F_fit_or_wrong.kp (bd_fit_or_wrong T) .nil (fun σ => passAt tk σ) (pa_cons pe_int (pa_cons (pe_callX (ok_is_time T nd) (fun z => nomatch z) (hr.mono (by decide)) rfl T.g_is_time T.F_is_time.kp (bd_is_time T) .nil pass0 (pa_cons (pv 1) pa_nil)) pa_nil))))
      (pss_cons (ps_expr (pe_callW (ok_fit_or_wrong T nd) (fun z => nomatch z) (hr.mono (by decide)) rfl T.g_fit_or_wrong T.F_fit_or_wrong.kp (bd_fit_or_wrong T) .nil (fun σ => passAt tk σ) (pa_cons pe_int (pa_cons (pe_callX (ok_is_state T nd) (fun z => nomatch z) hr rfl T.g_is_state T.F_is_state.kp (bd_is_state T) .nil pass0 (pa_cons (pv 2) pa_nil)) pa_nil))))
      (pss_cons (ps_expr (pe_callW (ok_fit_or_wrong T nd) (fun z => nomatch z) (hr.mono (by decide)) rfl T.g_fit_or_wrong T.F_fit_or_wrong.kp (bd_fit_or_wrong T) .nil (fun σ => passAt tk σ) (pa_cons pe_str (pa_cons (pe_cmpR (uo_inU hr.u65) (pv 3) (pe_glob rfl T.cg_KINDS rfl) (by rfl)) pa_nil))))
      (pss_cons (ps_set (i := 4) sc_Links_put.nd rfl (by first | exact Or.inl rfl | exact Or.inr rfl) (pe_methW (pv 0) T.cl_Links T.me_Links_base_ahead (ok_Links_base_ahead T nd) (fun z => nomatch z) (hr.mono (by decide)) (bd_Links_base_ahead T) .nil (fun σ => passAt tk σ) (pa_cons (pv 1) (pa_cons (pv 3) pa_nil))))
      (pss_cons (ps_asg (pv 3) (pg_sub (pe_fld (pv 0) rfl) (pv 1) (set_any hr.u1)))
      (pss_cons (ps_asg (pv 4) (pg_sub (pe_fld (pv 0) rfl) (pv 1) (set_any hr.u1)))
      (pss_one (ps_asg (pe_callX (ok_own_state T nd) (fun z => nomatch z) (hr.mono (by decide)) rfl T.g_own_state T.F_own_state.kp (bd_own_state T) .nil pass0 (pa_cons (pv 2) pa_nil)) (pg_sub (pe_fld (pv 0) rfl) (pv 1) (set_any hr.u1))))))))))
theorem sc_Links_merge : FnScope ["self", "time"] ["self", "time"] (defScope s_Links_merge) := ⟨rfl, rfl, rfl, by decide +kernel, rfl, by decide +kernel, by decide +kernel⟩
theorem bd_Links_merge (T : Txt K mg) : Binds K (fdOf K (mA K "Links" "merge")) ["self", "time"] [] := T.F_Links_merge.bindsN fun _ _ _ _ _ _ us hl => match us, hl with | [_, _], _ => rfl
theorem ok_Links_merge (T : Txt K mg) (nd : NDX base) : FnX false P w K mg base (L2.CX P w) 5 (mA K "Links" "merge") (fdOf K (mA K "Links" "merge")) ["self", "time"] (sp_Links_merge K) := by
  refine okW T.F_Links_merge sc_Links_merge len_Links_merge (fun cdv A outer s H vs Q E hgu0 hr h tk pw => ⟨t_Links_merge K (WT E), ?_, pure_Links_merge T.c vs H Q E h⟩)
  exact (pss_cons (ps_expr (pe_methW (pv 0) T.cl_Links T.me_Links_need_link (ok_Links_need_link T nd) (fun z => nomatch z) hr (bd_Links_need_link T) .nil (fun σ => passAt tk σ) (pa_cons (pv 1) pa_nil)))
      (pss_cons (ps_asg (pe_globS rfl T.c_FULL) (pg_sub (pe_fld (pv 0) rfl) (pv 1) (set_any hr.u1)))
      (pss_one (ps_asg pe_non (pg_sub (pe_fld (pv 0) rfl) (pv 1) (set_any hr.u1))))))
theorem sc_Links_forget : FnScope ["self", "time", "base", "heir"] ["self", "time"] (defScope s_Links_forget) := ⟨rfl, rfl, rfl, by decide +kernel, rfl, by decide +kernel, by decide +kernel⟩
theorem bd_Links_forget (T : Txt K mg) : Binds K (fdOf K (mA K "Links" "forget")) ["self", "time"] [] := T.F_Links_forget.bindsN fun _ _ _ _ _ _ us hl => match us, hl with | [_, _], _ => rfl
theorem ok_Links_forget (T : Txt K mg) (nd : NDX base) : FnX false P w K mg base (L2.CX P w) 5 (mA K "Links" "forget") (fdOf K (mA K "Links" "forget")) ["self", "time"] (sp_Links_forget K) := by
  refine okW T.F_Links_forget sc_Links_forget len_Links_forget (fun cdv A outer s H vs Q E hgu0 hr h tk pw => ⟨t_Links_forget K (WT E), ?_, pure_Links_forget T.c vs H Q E h⟩)
  exact (pss_cons (ps_expr (pe_methW (pv 0) T.cl_Links T.me_Links_need_link (ok_Links_need_link T nd) (fun z => nomatch z) hr (bd_Links_need_link T) .nil (fun σ => passAt tk σ) (pa_cons (pv 1) pa_nil)))
      (pss_cons (ps_set (i := 2) sc_Links_forget.nd rfl (by first | exact Or.inl rfl | exact Or.inr rfl) (pe_dpop1 (pe_fld (pv 0) rfl) (pv 1) ⟨by rfl, by rfl, by rfl, by rfl⟩))
      (pss_cons (ps_expr (pe_dpop1 (pe_fld (pv 0) rfl) (pv 1) ⟨by rfl, by rfl, by rfl, by rfl⟩))
      (pss_cons (ps_expr (pe_dpop1 (pe_fld (pv 0) rfl) (pv 1) ⟨by rfl, by rfl, by rfl, by rfl⟩))
      (pss_one (ps_for pw rfl (pi_list (pe_callB (cr_sortedDI rfl) (by rfl) T.b_sorted (by decide +kernel) (pa_cons (pe_fld (pv 0) rfl) pa_nil))) (pg_name (i := 3) sc_Links_forget.nd rfl (by first | exact Or.inl rfl | exact Or.inr rfl)) (pss_one (ps_if (pt_cmpR (uo_eq hr.units) (pe_ix (ix_dk hr.u1) (pe_fld (pv 0) rfl) (pv 3) (fun _ _ => rfl)) (pv 1) (nomark _)) (pss_cons (ps_asg (pv 2) (pg_sub (pe_fld (pv 0) rfl) (pv 3) (set_any hr.u1)))
      (pss_one (ps_if (pt_cmpR op_isN' (pv 2) pe_non (nomark _)) (pss_one (ps_asg (pe_globS rfl T.c_FULL) (pg_sub (pe_fld (pv 0) rfl) (pv 3) (set_any hr.u1)))) pss_nil))) pss_nil))))))))
theorem sc_l_call : FnScope ["_law_here", "_law_deed"] ["_law_here", "_law_deed"] (defScope s_l_call) := ⟨rfl, rfl, rfl, by decide +kernel, rfl, by decide +kernel, by decide +kernel⟩
theorem bd_l_call (T : Txt K mg) : Binds K (fdOf K (He.ga K "_law_call")) ["_law_here", "_law_deed"] [] := T.F_l_call.bindsN fun _ _ _ _ _ _ us hl => match us, hl with | [_, _], _ => rfl
theorem ok_l_call (T : Txt K mg) (nd : NDX base) : FnX false P w K mg base (L2.CX P w) 6 (He.ga K "_law_call") (fdOf K (He.ga K "_law_call")) ["_law_here", "_law_deed"] (sp_l_call K) := by
  refine okW T.F_l_call sc_l_call len_l_call (fun cdv A outer s H vs Q E hgu0 hr h tk pw => ⟨t_l_call K (WT E), ?_, pure_l_call T.c vs H Q E h⟩)
  obtain ⟨ds_Links_put, vd_Links_put, bd0_Links_put⟩ := bd0_Links_put T
  obtain ⟨mv_kb_Links_put_kind, kb_Links_put_kind⟩ := kb_Links_put_kind T
  exact (pss_cons (ps_if (PW.pt (pw_and (pt_cmpR (uo_eq hr.units) (pe_ix ix_any (pv 1) pe_int (fun _ _ => rfl)) pe_str (nomark _)) (pw_and (pt_cmpR (uo_eq hr.units) (pe_ix ix_any (pv 1) pe_int (fun _ _ => rfl)) pe_str (nomark _)) (pw_and1 (pt_cmpR (uo_eq hr.units) (pe_op uo_mod (pe_ix ix_any (pv 1) pe_int (fun _ _ => rfl)) pe_int) pe_int (nomark _)))))) (pss_one (ps_ret (pe_methW (pv 0) T.cl_Links T.me_Links_put (ok_Links_put T nd) (fun z => nomatch z) hr bd0_Links_put vd_Links_put (fun σ => passAt tk σ) (pa_cons (pe_ix ix_any (pv 1) pe_int (fun _ _ => rfl)) (pa_cons (pe_ix ix_any (pv 1) pe_int (fun _ _ => rfl)) pa_nil))))) pss_nil)
      (pss_cons (ps_if (pt_cmpR (uo_eq hr.units) (pe_ix ix_any (pv 1) pe_int (fun _ _ => rfl)) pe_str (nomark _)) (pss_one (ps_ret (pe_methN (ks := ["kind"]) (pv 0) T.cl_Links T.me_Links_put (ok_Links_put T nd) (fun z => nomatch z) hr kb_Links_put_kind (fun σ => passAt tk σ) (pa_cons (pe_ix ix_any (pv 1) pe_int (fun _ _ => rfl)) (pa_cons (pe_ix ix_any (pv 1) pe_int (fun _ _ => rfl)) pa_nil)) (pk_cons (pe_ix ix_any (pv 1) pe_int (fun _ _ => rfl)) pk_nil)))) pss_nil)
      (pss_cons (ps_if (pt_cmpR (uo_eq hr.units) (pe_ix ix_any (pv 1) pe_int (fun _ _ => rfl)) pe_str (nomark _)) (pss_one (ps_ret (pe_methW (pv 0) T.cl_Links T.me_Links_merge (ok_Links_merge T nd) (fun z => nomatch z) hr (bd_Links_merge T) .nil (fun σ => passAt tk σ) (pa_cons (pe_ix ix_any (pv 1) pe_int (fun _ _ => rfl)) pa_nil)))) pss_nil)
      (pss_one (ps_ret (pe_methW (pv 0) T.cl_Links T.me_Links_forget (ok_Links_forget T nd) (fun z => nomatch z) hr (bd_Links_forget T) .nil (fun σ => passAt tk σ) (pa_cons (pe_ix ix_any (pv 1) pe_int (fun _ _ => rfl)) pa_nil)))))))
theorem sc_l_class : FnScope ["_law_e", "_law_kinds"] ["_law_e"] (defScope s_l_class) := ⟨rfl, rfl, rfl, by decide +kernel, rfl, by decide +kernel, by decide +kernel⟩
theorem bd_l_class (T : Txt K mg) : Binds K (fdOf K (He.ga K "_law_class")) ["_law_e"] [] := T.F_l_class.bindsN fun _ _ _ _ _ _ us hl => match us, hl with | [_], _ => rfl
theorem ok_l_class (T : Txt K mg) : FnE P w K mg base 1 (He.ga K "_law_class") (fdOf K (He.ga K "_law_class")) "_law_e" (sp_l_class K) := by
  refine okE T.F_l_class sc_l_class (fun cdv A outer s H Q a oe cls d hr hz hf h => ⟨t_l_class K a cls d, PSs.nox ?_, pure_l_class T.c a cls d H Q h⟩)
  exact (pss_cons (ps_set (i := 1) sc_l_class.nd rfl (by first | exact Or.inl rfl | exact Or.inr rfl) (pe_lst (pa_cons (pe_callB (cr_isX List.mem_cons_self hz hf) (by rfl) T.b_isinstance (by decide +kernel) (pa_cons (pv 0) (pa_cons (pe_glob rfl T.cg_There rfl) pa_nil))) (pa_cons (pe_callB (cr_isX List.mem_cons_self hz hf) (by rfl) T.b_isinstance (by decide +kernel) (pa_cons (pv 0) (pa_cons (pe_glob rfl T.cg_TooMany rfl) pa_nil))) (pa_cons (pe_callB (cr_isX List.mem_cons_self hz hf) (by rfl) T.b_isinstance (by decide +kernel) (pa_cons (pv 0) (pa_cons (pe_glob rfl T.cg_NoBase rfl) pa_nil))) (pa_cons (pe_callB (cr_isX List.mem_cons_self hz hf) (by rfl) T.b_isinstance (by decide +kernel) (pa_cons (pv 0) (pa_cons (pe_glob rfl T.cg_NoMoment rfl) pa_nil))) pa_nil))))))
      (pss_cons (ps_set (i := 1) sc_l_class.nd rfl (by first | exact Or.inl rfl | exact Or.inr rfl) (pe_op uo_add (pv 1) (pe_lst (pa_cons (pe_callB (cr_isX List.mem_cons_self hz hf) (by rfl) T.b_isinstance (by decide +kernel) (pa_cons (pv 0) (pa_cons (pe_glob rfl T.cg_Wrong rfl) pa_nil))) pa_nil))))
      (pss_cons (ps_if (PW.pt (pw_or (pt_cmpR (uo_ne hr.units) (pe_bm PySem.F.plainAttrs_list PySem.F.slot_list_count PySem.F.type_list_count mt_countV (pv 1) (pa_cons pe_bl pa_nil)) pe_int (nomark _)) (pw_or1 (pt_cmpR (uo_ne hr.units) (pe_callB (cr_isX List.mem_cons_self hz hf) (by rfl) T.b_isinstance (by decide +kernel) (pa_cons (pv 0) (pa_cons (pe_bltn (by rfl) T.b_LookupError (by decide +kernel) rfl) pa_nil))) (pe_ix ix_any (pv 1) pe_int (fun _ _ => rfl)) (nomark _))))) (pss_one (ps_ret (pe_tup (pa_cons pe_str pa_nil)))) pss_nil)
      (pss_cons (ps_if (pt_val (pe_ix ix_any (pv 1) pe_int (fun _ _ => rfl))) (pss_one (ps_ret (pe_tup (pa_cons pe_str (pa_cons (pe_xg List.mem_cons_self hz hf (pv 0)) pa_nil))))) pss_nil)
      (pss_cons (ps_if (pt_val (pe_ix ix_any (pv 1) pe_int (fun _ _ => rfl))) (pss_one (ps_ret (pe_tup (pa_cons pe_str (pa_cons (pe_xg List.mem_cons_self hz hf (pv 0)) pa_nil))))) pss_nil)
      (pss_cons (ps_if (pt_val (pe_ix ix_any (pv 1) pe_int (fun _ _ => rfl))) (pss_one (ps_ret (pe_tup (pa_cons pe_str (pa_cons (pe_xg List.mem_cons_self hz hf (pv 0)) pa_nil))))) pss_nil)
      (pss_one (ps_ret (pe_tup (pa_cons (pe_ix ix_any (pe_lst (pa_cons pe_str (pa_cons pe_str pa_nil))) (pe_callTy cr_intB (by rfl) T.b_int (by decide +kernel) (pa_cons (pe_ix ix_any (pv 1) pe_int (fun _ _ => rfl)) pa_nil)) (fun _ _ => rfl)) (pa_cons (pe_xg List.mem_cons_self hz hf (pv 0)) pa_nil)))))))))))
theorem sc_l_say : FnScope ["_law_here", "_law_deed", "_law_found", "_law_e"] ["_law_here", "_law_deed"] (defScope s_l_say) := ⟨rfl, rfl, rfl, by decide +kernel, rfl, by decide +kernel, by decide +kernel⟩
theorem bd_l_say (T : Txt K mg) : Binds K (fdOf K (He.ga K "_law_say")) ["_law_here", "_law_deed"] [] := T.F_l_say.bindsN fun _ _ _ _ _ _ us hl => match us, hl with | [_, _], _ => rfl
theorem ok_l_say (T : Txt K mg) (nd : NDX base) : FnX false P w K mg base CX0 7 (He.ga K "_law_say") (fdOf K (He.ga K "_law_say")) ["_law_here", "_law_deed"] (sp_l_say K) := by
  refine okX T.F_l_say sc_l_say len_l_say (fun cdv A outer s H vs Q E hgu0 hr h => ⟨t_l_say K, PSs.nox ?_, pure_l_say T.c vs H Q E h⟩)
  exact (pss_cons (ps_set (i := 2) sc_l_say.nd rfl (by first | exact Or.inl rfl | exact Or.inr rfl) pe_non)
      (pss_cons (ps_tryT rfl rfl sc_l_say.nd tk0 (fun W pn xe tk pw => by exact (pss_one (ps_set (i := 2) sc_l_say.nd rfl (by first | exact Or.inl rfl | exact Or.inr rfl) (pe_callW (ok_l_call T nd) (fun z => nomatch z) hr rfl T.g_l_call T.F_l_call.kp (bd_l_call T) .nil (fun σ => passAt tk σ) (pa_cons (pv 0) (pa_cons (pv 1) pa_nil)))))) (HdOk.named (i := 3) (test2 ⟨rfl, by decide, .inl T.cg_StoreError⟩ ⟨rfl, by decide, .inl T.cg_Missing⟩) rfl rfl (fun a oe cls d pn hz hf => by exact (pss_one (ps_ret (pe_callE (ok_l_class T) List.mem_cons_self hz hf ((roomMark hr).mono (by decide)) rfl T.g_l_class T.F_l_class.kp (bd_l_class T) (pv 3))))) HdOk.nil))
      (pss_one (ps_ret (pe_tup (pa_cons pe_str (pa_cons (pv 2) pa_nil)))))))
theorem sc_l_seal : FnScope ["_law_bag_here", "_law_way"] ["_law_bag_here"] (defScope s_l_seal) := ⟨rfl, rfl, rfl, by decide +kernel, rfl, by decide +kernel, by decide +kernel⟩
theorem bd_l_seal (T : Txt K mg) : Binds K (fdOf K (He.ga K "_law_seal")) ["_law_bag_here"] [] := T.F_l_seal.bindsN fun _ _ _ _ _ _ us hl => match us, hl with | [_], _ => rfl
theorem ok_l_seal (T : Txt K mg) (nd : NDX base) : FnX false P w K mg base CX0 2 (He.ga K "_law_seal") (fdOf K (He.ga K "_law_seal")) ["_law_bag_here"] (sp_l_seal K) := by
  refine okX T.F_l_seal sc_l_seal len_l_seal (fun cdv A outer s H vs Q E hgu0 hr h => ⟨t_l_seal K, PSs.nox ?_, pure_l_seal vs H Q E h⟩)
  exact (pss_cons (ps_set (i := 1) sc_l_seal.nd rfl (by first | exact Or.inl rfl | exact Or.inr rfl) (pe_callX (ok_l_take T nd) (fun z => nomatch z) hr rfl T.g_l_take T.F_l_take.kp (bd_l_take T) .nil pass0 (pa_cons (pv 0) (pa_cons pe_int pa_nil))))
      (pss_cons (ps_if (pt_cmpR (uo_eq hr.units) (pv 1) pe_int (nomark _)) (pss_one (ps_ret (pe_op uo_add pe_int (pe_callX (ok_l_take T nd) (fun z => nomatch z) hr rfl T.g_l_take T.F_l_take.kp (bd_l_take T) .nil pass0 (pa_cons (pv 0) (pa_cons pe_int pa_nil)))))) pss_nil)
      (pss_one (ps_ret (pe_ix ix_any (pe_lst (pa_cons (pe_op uo_add pe_int (pe_callX (ok_l_take T nd) (fun z => nomatch z) hr rfl T.g_l_take T.F_l_take.kp (bd_l_take T) .nil pass0 (pa_cons (pv 0) (pa_cons pe_int pa_nil)))) (pa_cons (pe_op uo_add (pe_op uo_add pe_int (pe_op uo_mul pe_int (pe_callX (ok_l_take T nd) (fun z => nomatch z) hr rfl T.g_l_take T.F_l_take.kp (bd_l_take T) .nil pass0 (pa_cons (pv 0) (pa_cons pe_int pa_nil))))) (pe_callX (ok_l_take T nd) (fun z => nomatch z) hr rfl T.g_l_take T.F_l_take.kp (bd_l_take T) .nil pass0 (pa_cons (pv 0) (pa_cons pe_int pa_nil)))) pa_nil))) (pe_op uo_sub (pv 1) pe_int) (fun _ _ => rfl))))))
theorem sc_l_seals : FnScope ["_law_bag_here", "_law_k"] ["_law_bag_here"] (defScope s_l_seals) := ⟨rfl, rfl, rfl, by decide +kernel, rfl, by decide +kernel, by decide +kernel⟩
theorem bd_l_seals (T : Txt K mg) : Binds K (fdOf K (He.ga K "_law_seals")) ["_law_bag_here"] [] := T.F_l_seals.bindsN fun _ _ _ _ _ _ us hl => match us, hl with | [_], _ => rfl
theorem ok_l_seals (T : Txt K mg) (nd : NDX base) : FnX false P w K mg base CX0 3 (He.ga K "_law_seals") (fdOf K (He.ga K "_law_seals")) ["_law_bag_here"] (sp_l_seals K) := by
  refine okX T.F_l_seals sc_l_seals len_l_seals (fun cdv A outer s H vs Q E hgu0 hr h => ⟨t_l_seals K, PSs.nox ?_, pure_l_seals vs H Q E h⟩)
  exact (pss_one (ps_ret (pe_lc (own := [("_law_k", 1)]) (g := (gName 1)) (tt := tYes) rfl sc_l_seals.nd (pi_range1 (by rfl) T.b_range (pa_cons (pe_ix ix_any (pe_lst (pa_cons pe_int (pa_cons pe_int (pa_cons pe_int (pa_cons pe_int (pa_cons pe_int pa_nil)))))) (pe_callX (ok_l_take T nd) (fun z => nomatch z) (hr.mono (by decide)) rfl T.g_l_take T.F_l_take.kp (bd_l_take T) .nil pass0 (pa_cons (pv 0) (pa_cons pe_int pa_nil))) (fun _ _ => rfl)) pa_nil)) (blkOk_by (own := [("_law_k", 1)]) (N := ["_law_bag_here", "_law_k"]) (sc := defScope s_l_seals) (by decide +kernel)) (fun _ _ _ _ _ => (pg_name (i := 1) sc_l_seals.nd rfl (by first | exact Or.inl rfl | exact Or.inr rfl))) (fun _ _ _ _ _ => pts_nil) (fun _ _ _ _ _ => (pe_callX (ok_l_seal T nd) (fun z => nomatch z) hr rfl T.g_l_seal T.F_l_seal.kp (bd_l_seal T) .nil pass0 (pa_cons (pv 0) pa_nil))))))
theorem sc_l_state : FnScope ["_law_bag_here", "_law_names_here", "_law_some", "_law_name_here"] ["_law_bag_here", "_law_names_here"] (defScope s_l_state) := ⟨rfl, rfl, rfl, by decide +kernel, rfl, by decide +kernel, by decide +kernel⟩
theorem bd_l_state (T : Txt K mg) : Binds K (fdOf K (He.ga K "_law_state")) ["_law_bag_here", "_law_names_here"] [] := T.F_l_state.bindsN fun _ _ _ _ _ _ us hl => match us, hl with | [_, _], _ => rfl
theorem ok_l_state (T : Txt K mg) (nd : NDX base) : FnX false P w K mg base CX0 4 (He.ga K "_law_state") (fdOf K (He.ga K "_law_state")) ["_law_bag_here", "_law_names_here"] (sp_l_state K) := by
  refine okX T.F_l_state sc_l_state len_l_state (fun cdv A outer s H vs Q E hgu0 hr h => ⟨t_l_state K, PSs.nox ?_, pure_l_state vs H Q E h⟩)
  exact (pss_cons (ps_setLc (i := 2) (own := [("_law_name_here", 3)]) (g := (gName 3)) (tt := (tTest (tOp uGt (tCall (sp_l_take K) [] E0 (tCons (tVar 0) (tCons (tC (.int 3)) tNil))) (tC (.int 0))))) rfl sc_l_state.nd rfl rfl (sw_true rfl rfl rfl (by decide +kernel)) (pi_list (pv 1)) (blkOk_by (own := [("_law_name_here", 3)]) (N := ["_law_bag_here", "_law_names_here", "_law_some", "_law_name_here"]) (sc := defScope s_l_state) (by decide +kernel)) (fun _ _ _ _ _ => (pg_name (i := 3) sc_l_state.nd rfl (by first | exact Or.inl rfl | exact Or.inr rfl))) (fun _ _ _ _ _ => (pts_one (pt_cmpR uo_gt (pe_callX (ok_l_take T nd) (fun z => nomatch z) (hr.mono (by decide)) rfl T.g_l_take T.F_l_take.kp (bd_l_take T) .nil pass0 (pa_cons (pv 0) (pa_cons pe_int pa_nil))) pe_int (nomark _)))) (fun _ _ _ _ _ => (pe_tup (pa_cons (pv 3) (pa_cons (pe_callX (ok_l_seals T nd) (fun z => nomatch z) hr rfl T.g_l_seals T.F_l_seals.kp (bd_l_seals T) .nil pass0 (pa_cons (pv 0) pa_nil)) pa_nil)))))
      (pss_one (ps_ret (pe_fz (pe_callTy (cr_dictP rfl) (by rfl) T.b_dict (by decide +kernel) (pa_cons (pe_revL (pv 2)) pa_nil))))))
theorem sc_law : FnScope ["_law_script", "_law_bag_here", "_law_names_here", "_law_left", "_law_here", "_law_turn", "_law_time", "_law_way_of", "_law_there", "_law_ahead_here", "_law_seen_here", "_law_due_here", "_law_was", "_law_k", "_law_base", "_law_one"] ["_law_script"] (defScope s_law) := ⟨rfl, rfl, rfl, by decide +kernel, rfl, by decide +kernel, by decide +kernel⟩
theorem bd_law (T : Txt K mg) : Binds K (fdOf K (He.ga K "law")) ["_law_script"] [] := T.F_law.bindsN fun _ _ _ _ _ _ us hl => match us, hl with | [_], _ => rfl
theorem ok_law (T : Txt K mg) (nd : NDX base) : FnX true P w K mg base CX0 8 (He.ga K "law") (fdOf K (He.ga K "law")) ["_law_script"] (sp_law K) := by
  refine okX T.F_law sc_law len_law (fun cdv A outer s H vs Q E hgu0 hr h => ⟨t_law K, PSs.nox ?_, pure_law T.c vs H Q E h⟩)
  have hgu : (A.deeper (envOfC "law" (defScope s_law) s.heap.objs.size (He.ga K "law") cdv)).guards = some [] := hgu0 rfl
  exact (pss_cons (ps_set (i := 1) sc_law.nd rfl (by first | exact Or.inl rfl | exact Or.inr rfl) (pe_callX (ok_l_bag T nd) (fun z => nomatch z) (hr.mono (by decide)) rfl T.g_l_bag T.F_l_bag.kp (bd_l_bag T) .nil pass0 (pa_cons (pv 0) pa_nil)))
      (pss_cons (ps_set (i := 2) sc_law.nd rfl (by first | exact Or.inl rfl | exact Or.inr rfl) (pe_callX (ok_l_names T nd) (fun z => nomatch z) (hr.mono (by decide)) rfl T.g_l_names T.F_l_names.kp (bd_l_names T) .nil pass0 (pa_cons (pv 1) (pa_cons (pe_op uo_add pe_int (pe_callX (ok_l_take T nd) (fun z => nomatch z) (hr.mono (by decide)) rfl T.g_l_take T.F_l_take.kp (bd_l_take T) .nil pass0 (pa_cons (pv 1) (pa_cons pe_int pa_nil)))) pa_nil))))
      (pss_cons (ps_setLc (i := 3) (own := [("_law_k", 13)]) (g := (gName 13)) (tt := tYes) rfl sc_law.nd rfl rfl (sw_true rfl rfl rfl (by decide +kernel)) (pi_range1 (by rfl) T.b_range (pa_cons pe_int pa_nil)) (blkOk_by (own := [("_law_k", 13)]) (N := ["_law_script", "_law_bag_here", "_law_names_here", "_law_left", "_law_here", "_law_turn", "_law_time", "_law_way_of", "_law_there", "_law_ahead_here", "_law_seen_here", "_law_due_here", "_law_was", "_law_k", "_law_base", "_law_one"]) (sc := defScope s_law) (by decide +kernel)) (fun _ _ _ _ _ => (pg_name (i := 13) sc_law.nd rfl (by first | exact Or.inl rfl | exact Or.inr rfl))) (fun _ _ _ _ _ => pts_nil) (fun _ _ _ _ _ => (pe_ix ix_any (pe_lst (pa_cons (pv 13) (pa_cons (pe_op uo_mul pe_int (pv 13)) (pa_cons (pe_op uo_sub (pe_op uo_pow pe_int pe_int) (pv 13)) pa_nil)))) (pe_callX (ok_l_take T nd) (fun z => nomatch z) (hr.mono (by decide)) rfl T.g_l_take T.F_l_take.kp (bd_l_take T) .nil pass0 (pa_cons (pv 1) (pa_cons pe_int pa_nil))) (fun _ _ => rfl))))
      (pss_cons (ps_set (i := 4) sc_law.nd rfl (by first | exact Or.inl rfl | exact Or.inr rfl) (pe_makeW0 T.mk_Links (ok_Links___init__ T nd) (hr.mono (by decide)) rfl T.cg_Links (bd_Links___init__ T) .nil (fun _ => pas0)))
      (pss_cons (ps_for PassesOwn.never rfl (pi_range1 (by rfl) T.b_range (pa_cons (pe_op uo_add pe_int (pe_callX (ok_l_take T nd) (fun z => nomatch z) (hr.mono (by decide)) rfl T.g_l_take T.F_l_take.kp (bd_l_take T) .nil pass0 (pa_cons (pv 1) (pa_cons pe_int pa_nil)))) pa_nil)) (pg_name (i := 5) sc_law.nd rfl (by first | exact Or.inl rfl | exact Or.inr rfl)) (pss_cons (ps_set (i := 6) sc_law.nd rfl (by first | exact Or.inl rfl | exact Or.inr rfl) (pe_ix ix_any (pv 3) (pe_callX (ok_l_take T nd) (fun z => nomatch z) (hr.mono (by decide)) rfl T.g_l_take T.F_l_take.kp (bd_l_take T) .nil pass0 (pa_cons (pv 1) (pa_cons (pe_callB cr_len (by rfl) T.b_len (by decide +kernel) (pa_cons (pv 3) pa_nil)) pa_nil))) (fun _ _ => rfl)))
      (pss_cons (ps_set (i := 7) sc_law.nd rfl (by first | exact Or.inl rfl | exact Or.inr rfl) (pe_ix ix_any (pe_lst (pa_cons pe_str (pa_cons pe_str (pa_cons pe_str (pa_cons pe_str pa_nil))))) (pe_callX (ok_l_take T nd) (fun z => nomatch z) (hr.mono (by decide)) rfl T.g_l_take T.F_l_take.kp (bd_l_take T) .nil pass0 (pa_cons (pv 1) (pa_cons pe_int pa_nil))) (fun _ _ => rfl)))
      (pss_cons (ps_set (i := 8) sc_law.nd rfl (by first | exact Or.inl rfl | exact Or.inr rfl) (pe_methW0 (pv 4) T.cl_Links T.me_Links_times (ok_Links_times T nd) (fun z => nomatch z) (hr.mono (by decide)) (bd_Links_times T) .nil (fun _ => pas0)))
      (pss_cons (ps_setLc (i := 9) (own := [("_law_one", 15)]) (g := (gName 15)) (tt := (tAnd (tTest (tOp uLt (tVar 15) (tVar 6))) (tOr (tTest (tOp (uEq K) (tVar 7) (tC (.str "step")))) (tTest (tOp (uEq K) (tMethW W0 (He.ga K "Links") "kind" (sp_Links_kind K) [] (tVar 4) (tCons (tVar 15) tNil)) (tC (.str "full"))))))) rfl sc_law.nd rfl rfl (sw_true rfl rfl rfl (by decide +kernel)) (pi_list (pv 8)) (blkOk_by (own := [("_law_one", 15)]) (N := ["_law_script", "_law_bag_here", "_law_names_here", "_law_left", "_law_here", "_law_turn", "_law_time", "_law_way_of", "_law_there", "_law_ahead_here", "_law_seen_here", "_law_due_here", "_law_was", "_law_k", "_law_base", "_law_one"]) (sc := defScope s_law) (by decide +kernel)) (fun _ _ _ _ _ => (pg_name (i := 15) sc_law.nd rfl (by first | exact Or.inl rfl | exact Or.inr rfl))) (fun _ _ _ _ _ => (pts_one (PW.pt (pw_and (pt_cmpR uo_lt (pv 15) (pv 6) (nomark _)) (pw_and1 (PW.pt (pw_or (pt_cmpR (uo_eq hr.units) (pv 7) pe_str (nomark _)) (pw_or1 (pt_cmpR (uo_eq hr.units) (pe_methW (pv 4) T.cl_Links T.me_Links_kind (ok_Links_kind T nd) (fun z => nomatch z) (hr.mono (by decide)) (bd_Links_kind T) .nil (fun _ => pasF) (pa_cons (pv 15) pa_nil)) pe_str (nomark _)))))))))) (fun _ _ _ _ _ => (pv 15)))
      (pss_cons (ps_set (i := 10) sc_law.nd rfl (by first | exact Or.inl rfl | exact Or.inr rfl) (pe_callW (ok_l_seen T nd) (fun z => nomatch z) (hr.mono (by decide)) rfl T.g_l_seen T.F_l_seen.kp (bd_l_seen T) .nil (fun _ => pasF) (pa_cons (pv 4) (pa_cons (pv 6) pa_nil))))
      (pss_cons (ps_set (i := 11) sc_law.nd rfl (by first | exact Or.inl rfl | exact Or.inr rfl) (pe_tup (pa_cons pe_str (pa_cons pe_non pa_nil))))
      (pss_cons (ps_if (pt_cmpR (uo_inU hr.u65) (pv 6) (pv 8) (by rfl)) (pss_one (ps_set (i := 11) sc_law.nd rfl (by first | exact Or.inl rfl | exact Or.inr rfl) (pe_tup (pa_cons pe_str (pa_cons (pv 6) pa_nil))))) (pss_one (ps_if (pt_cmpR (uo_eq hr.units) (pe_callB cr_len (by rfl) T.b_len (by decide +kernel) (pa_cons (pv 8) pa_nil)) pe_int (nomark _)) (pss_one (ps_set (i := 11) sc_law.nd rfl (by first | exact Or.inl rfl | exact Or.inr rfl) (pe_tup (pa_cons pe_str (pa_cons pe_int pa_nil))))) (pss_one (ps_if (PW.pt (pw_and (pt_cmpR (uo_ne hr.units) (pv 7) pe_str (nomark _)) (pw_and1 (pt_cmpR (uo_eq hr.units) (pv 9) (pe_lst pa_nil) (nomark _))))) (pss_one (ps_set (i := 11) sc_law.nd rfl (by first | exact Or.inl rfl | exact Or.inr rfl) (pe_tup (pa_cons pe_str (pa_cons (pv 6) pa_nil))))) pss_nil)))))
      (pss_cons (ps_set (i := 12) sc_law.nd rfl (by first | exact Or.inl rfl | exact Or.inr rfl) (pe_callW (ok_l_seen T nd) (fun z => nomatch z) (hr.mono (by decide)) rfl T.g_l_seen T.F_l_seen.kp (bd_l_seen T) .nil (fun _ => pasF) (pa_cons (pv 4) (pa_cons pe_non pa_nil))))
      (pss_cons (ps_if (pt_not (pt_val (pe_callX (ok_l_alike T nd) (fun _ => hgu) (hr.mono (by decide)) rfl T.g_l_alike T.F_l_alike.kp (bd_l_alike T) .nil pass0 (pa_cons (pe_callX (ok_l_say T nd) (fun z => nomatch z) hr rfl T.g_l_say T.F_l_say.kp (bd_l_say T) .nil pass0 (pa_cons (pv 4) (pa_cons (pe_tup (pa_cons pe_str (pa_cons (pv 6) (pa_cons (pe_callX (ok_l_state T nd) (fun z => nomatch z) (hr.mono (by decide)) rfl T.g_l_state T.F_l_state.kp (bd_l_state T) .nil pass0 (pa_cons (pv 1) (pa_cons (pv 2) pa_nil))) (pa_cons (pv 7) pa_nil))))) pa_nil))) (pa_cons (pv 11) pa_nil))))) (pss_one (ps_ret pe_bl)) pss_nil)
      (pss_cons (ps_if (PW.pt (pw_or (pt_cmpR (uo_neQ (units128 hr)) (pe_callW (ok_l_seen T nd) (fun z => nomatch z) (hr.mono (by decide)) rfl T.g_l_seen T.F_l_seen.kp (bd_l_seen T) .nil (fun _ => pasF) (pa_cons (pv 4) (pa_cons (pv 6) pa_nil))) (pv 10) (nomark _)) (pw_or1 (PW.pt (pw_and (pt_cmpR (uo_ne hr.units) (pe_ix ix_any (pv 11) pe_int (fun _ _ => rfl)) pe_str (nomark _)) (pw_and1 (pt_cmpR (uo_neQ (units128 hr)) (pe_callW (ok_l_seen T nd) (fun z => nomatch z) (hr.mono (by decide)) rfl T.g_l_seen T.F_l_seen.kp (bd_l_seen T) .nil (fun _ => pasF) (pa_cons (pv 4) (pa_cons pe_non pa_nil))) (pv 12) (nomark _)))))))) (pss_one (ps_ret pe_bl)) pss_nil)
      (pss_one (ps_if (pt_cmpR (uo_eq hr.units) (pe_ix ix_any (pv 11) pe_int (fun _ _ => rfl)) pe_str (nomark _)) (pss_cons (ps_set (i := 14) sc_law.nd rfl (by first | exact Or.inl rfl | exact Or.inr rfl) pe_non)
      (pss_cons (ps_if (pt_cmpR (uo_ne hr.units) (pv 7) pe_str (nomark _)) (pss_one (ps_set (i := 14) sc_law.nd rfl (by first | exact Or.inl rfl | exact Or.inr rfl) (pe_callB (cr_max rfl) (by rfl) T.b_max (by decide +kernel) (pa_cons (pv 9) pa_nil)))) pss_nil)
      (pss_one (ps_if (pt_not (pt_val (pe_callX (ok_l_alike T nd) (fun _ => hgu) (hr.mono (by decide)) rfl T.g_l_alike T.F_l_alike.kp (bd_l_alike T) .nil pass0 (pa_cons (pe_lst (pa_cons (pe_methW (pv 4) T.cl_Links T.me_Links_kind (ok_Links_kind T nd) (fun z => nomatch z) (hr.mono (by decide)) (bd_Links_kind T) .nil (fun _ => pasF) (pa_cons (pv 6) pa_nil)) (pa_cons (pe_methW (pv 4) T.cl_Links T.me_Links_base (ok_Links_base T nd) (fun z => nomatch z) (hr.mono (by decide)) (bd_Links_base T) .nil (fun _ => pasF) (pa_cons (pv 6) pa_nil)) pa_nil))) (pa_cons (pe_lst (pa_cons (pv 7) (pa_cons (pv 14) pa_nil))) pa_nil))))) (pss_one (ps_ret pe_bl)) pss_nil)))) pss_nil)))))))))))))
      (pss_one (ps_ret pe_bl)))))))
end
def d_l_bag : He.DefD := ⟨("_law_bag", none), "_law_bag", "_law_bag", defArgs s_l_bag, defBody s_l_bag, defScope s_l_bag, [], []⟩
def d_l_take : He.DefD := ⟨("_law_take", none), "_law_take", "_law_take", defArgs s_l_take, defBody s_l_take, defScope s_l_take, [], []⟩
def d_l_name : He.DefD := ⟨("_law_name", none), "_law_name", "_law_name", defArgs s_l_name, defBody s_l_name, defScope s_l_name, [], []⟩
def d_l_names : He.DefD := ⟨("_law_names", none), "_law_names", "_law_names", defArgs s_l_names, defBody s_l_names, defScope s_l_names, [], []⟩
def d_Links___init__ : He.DefD := ⟨("Links", some "__init__"), "__init__", "Links.__init__", defArgs s_Links___init__, defBody s_Links___init__, defScope s_Links___init__, [], []⟩
def d_Links_times : He.DefD := ⟨("Links", some "times"), "times", "Links.times", defArgs s_Links_times, defBody s_Links_times, defScope s_Links_times, [], []⟩
def d_fit_or_wrong : He.DefD := ⟨("fit_or_wrong", none), "fit_or_wrong", "fit_or_wrong", defArgs s_fit_or_wrong, defBody s_fit_or_wrong, defScope s_fit_or_wrong, [], []⟩
def d_is_whole : He.DefD := ⟨("is_whole", none), "is_whole", "is_whole", defArgs s_is_whole, defBody s_is_whole, defScope s_is_whole, [], []⟩
def d_is_time : He.DefD := ⟨("is_time", none), "is_time", "is_time", defArgs s_is_time, defBody s_is_time, defScope s_is_time, [], []⟩
def d_Links_need_link : He.DefD := ⟨("Links", some "need_link"), "need_link", "Links.need_link", defArgs s_Links_need_link, defBody s_Links_need_link, defScope s_Links_need_link, [], []⟩
def d_Links_kind : He.DefD := ⟨("Links", some "kind"), "kind", "Links.kind", defArgs s_Links_kind, defBody s_Links_kind, defScope s_Links_kind, [], []⟩
def d_Links_base : He.DefD := ⟨("Links", some "base"), "base", "Links.base", defArgs s_Links_base, defBody s_Links_base, defScope s_Links_base, [], []⟩
def d_own_state : He.DefD := ⟨("own_state", none), "own_state", "own_state", defArgs s_own_state, defBody s_own_state, defScope s_own_state, [], []⟩
def d_Links_state : He.DefD := ⟨("Links", some "state"), "state", "Links.state", defArgs s_Links_state, defBody s_Links_state, defScope s_Links_state, [], []⟩
def d_l_seen : He.DefD := ⟨("_law_seen", none), "_law_seen", "_law_seen", defArgs s_l_seen, defBody s_l_seen, defScope s_l_seen, [], []⟩
def d_l_alike : He.DefD := ⟨("_law_alike", none), "_law_alike", "_law_alike", defArgs s_l_alike, defBody s_l_alike, defScope s_l_alike, [], []⟩
def d_is_name : He.DefD := ⟨("is_name", none), "is_name", "is_name", defArgs s_is_name, defBody s_is_name, defScope s_is_name, [], []⟩
def d_is_seal : He.DefD := ⟨("is_seal", none), "is_seal", "is_seal", defArgs s_is_seal, defBody s_is_seal, defScope s_is_seal, [], []⟩
def d_are_seals : He.DefD := ⟨("are_seals", none), "are_seals", "are_seals", defArgs s_are_seals, defBody s_are_seals, defScope s_are_seals, [], []⟩
def d_is_state : He.DefD := ⟨("is_state", none), "is_state", "is_state", defArgs s_is_state, defBody s_is_state, defScope s_is_state, [], []⟩
def d_Links_base_ahead : He.DefD := ⟨("Links", some "base_ahead"), "base_ahead", "Links.base_ahead", defArgs s_Links_base_ahead, defBody s_Links_base_ahead, defScope s_Links_base_ahead, [], []⟩
def d_Links_put : He.DefD := ⟨("Links", some "put"), "put", "Links.put", defArgs s_Links_put, defBody s_Links_put, defScope s_Links_put, [], [("kind", .str "full")]⟩
def d_Links_merge : He.DefD := ⟨("Links", some "merge"), "merge", "Links.merge", defArgs s_Links_merge, defBody s_Links_merge, defScope s_Links_merge, [], []⟩
def d_Links_forget : He.DefD := ⟨("Links", some "forget"), "forget", "Links.forget", defArgs s_Links_forget, defBody s_Links_forget, defScope s_Links_forget, [], []⟩
def d_l_call : He.DefD := ⟨("_law_call", none), "_law_call", "_law_call", defArgs s_l_call, defBody s_l_call, defScope s_l_call, [], []⟩
def d_l_class : He.DefD := ⟨("_law_class", none), "_law_class", "_law_class", defArgs s_l_class, defBody s_l_class, defScope s_l_class, [], []⟩
def d_l_say : He.DefD := ⟨("_law_say", none), "_law_say", "_law_say", defArgs s_l_say, defBody s_l_say, defScope s_l_say, [], []⟩
def d_l_seal : He.DefD := ⟨("_law_seal", none), "_law_seal", "_law_seal", defArgs s_l_seal, defBody s_l_seal, defScope s_l_seal, [], []⟩
def d_l_seals : He.DefD := ⟨("_law_seals", none), "_law_seals", "_law_seals", defArgs s_l_seals, defBody s_l_seals, defScope s_l_seals, [], []⟩
def d_l_state : He.DefD := ⟨("_law_state", none), "_law_state", "_law_state", defArgs s_l_state, defBody s_l_state, defScope s_l_state, [], []⟩
def d_law : He.DefD := ⟨("law", none), "law", "law", defArgs s_law, defBody s_law, defScope s_law, [], []⟩
def d_Wrong___init__ : He.DefD := ⟨("Wrong", some "__init__"), "__init__", "Wrong.__init__", defArgs s_Wrong___init__, defBody s_Wrong___init__, defScope s_Wrong___init__, [], []⟩
def d_NoMoment___init__ : He.DefD := ⟨("NoMoment", some "__init__"), "__init__", "NoMoment.__init__", defArgs s_NoMoment___init__, defBody s_NoMoment___init__, defScope s_NoMoment___init__, [], []⟩
def d_There___init__ : He.DefD := ⟨("There", some "__init__"), "__init__", "There.__init__", defArgs s_There___init__, defBody s_There___init__, defScope s_There___init__, [], []⟩
def d_TooMany___init__ : He.DefD := ⟨("TooMany", some "__init__"), "__init__", "TooMany.__init__", defArgs s_TooMany___init__, defBody s_TooMany___init__, defScope s_TooMany___init__, [], []⟩
def d_NoBase___init__ : He.DefD := ⟨("NoBase", some "__init__"), "__init__", "NoBase.__init__", defArgs s_NoBase___init__, defBody s_NoBase___init__, defScope s_NoBase___init__, [], []⟩
def fn : List He.DefD := ([d_l_bag, d_l_take, d_l_name, d_l_names, d_Links___init__, d_Links_times, d_fit_or_wrong, d_is_whole, d_is_time, d_Links_need_link, d_Links_kind, d_Links_base, d_own_state, d_Links_state, d_l_seen, d_l_alike, d_is_name, d_is_seal, d_are_seals, d_is_state, d_Links_base_ahead, d_Links_put, d_Links_merge, d_Links_forget, d_l_call, d_l_class, d_l_say, d_l_seal, d_l_seals, d_l_state] : List He.DefD) ++ ([d_law, d_Wrong___init__, d_NoMoment___init__, d_There___init__, d_TooMany___init__, d_NoBase___init__] : List He.DefD)
def fa : List (PySem.W.Frag → Bool) := ([(fun K => (He.Fa.int "MOST_TIME" 1000000).ok K), (fun K => (He.Fa.str "LETTERS" "abcdefghijklmnopqrstuvwxyz").ok K), (fun K => (He.Fa.int "LONGEST" 8).ok K), (fun K => (He.Fa.int "MOST_PIECE" 16).ok K), (fun K => (He.Fa.int "BASE" 1001).ok K), (fun K => (He.Fa.int "MOST_CONTENT" 48).ok K), (fun K => (He.Fa.int "MOST_FILES" 8).ok K), (fun K => (He.Fa.int "MOST_LINKS" 24).ok K), (fun K => (He.Fa.str "FULL" "full").ok K), (fun K => (He.Fa.glo "KINDS").ok K), (fun K => He.tupB K "KINDS" [.str "full", .str "step", .str "wide"]), (fun K => (He.Fa.glo "_law_bag").ok K), (fun K => (He.Fa.glo "_law_take").ok K), (fun K => (He.Fa.glo "_law_name").ok K), (fun K => (He.Fa.glo "_law_names").ok K), (fun K => (He.Fa.glo "fit_or_wrong").ok K), (fun K => (He.Fa.glo "is_whole").ok K), (fun K => (He.Fa.glo "is_time").ok K), (fun K => (He.Fa.glo "own_state").ok K), (fun K => (He.Fa.glo "_law_seen").ok K), (fun K => (He.Fa.glo "_law_alike").ok K), (fun K => (He.Fa.glo "is_name").ok K), (fun K => (He.Fa.glo "is_seal").ok K), (fun K => (He.Fa.glo "are_seals").ok K), (fun K => (He.Fa.glo "is_state").ok K), (fun K => (He.Fa.glo "_law_call").ok K), (fun K => (He.Fa.glo "_law_class").ok K), (fun K => (He.Fa.glo "_law_say").ok K), (fun K => (He.Fa.glo "_law_seal").ok K), (fun K => (He.Fa.glo "_law_seals").ok K)] : List (PySem.W.Frag → Bool)) ++ ([(fun K => (He.Fa.glo "_law_state").ok K), (fun K => (He.Fa.glo "law").ok K), (fun K => (He.Fa.glo "Wrong").ok K), (fun K => (He.Fa.glo "NoMoment").ok K), (fun K => (He.Fa.glo "There").ok K), (fun K => (He.Fa.glo "TooMany").ok K), (fun K => (He.Fa.glo "NoBase").ok K), (fun K => (He.Fa.glo "StoreError").ok K), (fun K => (He.Fa.glo "Missing").ok K), (fun K => (He.Fa.glo "Links").ok K), (fun K => (He.Fa.cls "Links").ok K), (fun K => (He.Fa.mkr "Links").ok K), (fun K => (He.Fa.noat "Links" "sort_by").ok K), (fun K => (He.Fa.noat "Links" "base_by").ok K), (fun K => (He.Fa.noat "Links" "whole_by").ok K), (fun K => (He.Fa.meth "Links" "times").ok K), (fun K => (He.Fa.meth "Links" "need_link").ok K), (fun K => (He.Fa.meth "Links" "kind").ok K), (fun K => (He.Fa.meth "Links" "base").ok K), (fun K => (He.Fa.meth "Links" "state").ok K), (fun K => (He.Fa.meth "Links" "base_ahead").ok K), (fun K => (He.Fa.meth "Links" "put").ok K), (fun K => (He.Fa.meth "Links" "merge").ok K), (fun K => (He.Fa.meth "Links" "forget").ok K), (fun K => chB K "Wrong" (tlB "ValueError") "ValueError.__new__"), (fun K => chF K "Wrong"), (fun K => chC K "Wrong"), (fun K => chN K "Wrong" "at"), (fun K => chI K "StoreError" "ValueError.__init__"), (fun K => chM K "Wrong" "StoreError" true)] : List (PySem.W.Frag → Bool)) ++ ([(fun K => chM K "Wrong" "Missing" false), (fun K => chK K "Wrong" "There" false), (fun K => chK K "Wrong" "TooMany" false), (fun K => chK K "Wrong" "NoBase" false), (fun K => chK K "Wrong" "NoMoment" false), (fun K => chK K "Wrong" "Wrong" true), (fun K => chT K "Wrong" "LookupError" false), (fun K => chB K "NoMoment" (tlB "LookupError") "LookupError.__new__"), (fun K => chF K "NoMoment"), (fun K => chC K "NoMoment"), (fun K => chN K "NoMoment" "time"), (fun K => chI K "Missing" "LookupError.__init__"), (fun K => chM K "NoMoment" "StoreError" false), (fun K => chM K "NoMoment" "Missing" true), (fun K => chK K "NoMoment" "There" false), (fun K => chK K "NoMoment" "TooMany" false), (fun K => chK K "NoMoment" "NoBase" false), (fun K => chK K "NoMoment" "NoMoment" true), (fun K => chK K "NoMoment" "Wrong" false), (fun K => chT K "NoMoment" "LookupError" true), (fun K => chB K "There" (tlB "ValueError") "ValueError.__new__"), (fun K => chF K "There"), (fun K => chC K "There"), (fun K => chN K "There" "thing"), (fun K => chM K "There" "StoreError" true), (fun K => chM K "There" "Missing" false), (fun K => chK K "There" "There" true), (fun K => chK K "There" "TooMany" false), (fun K => chK K "There" "NoBase" false), (fun K => chK K "There" "NoMoment" false)] : List (PySem.W.Frag → Bool)) ++ ([(fun K => chK K "There" "Wrong" false), (fun K => chT K "There" "LookupError" false), (fun K => chB K "TooMany" (tlB "ValueError") "ValueError.__new__"), (fun K => chF K "TooMany"), (fun K => chC K "TooMany"), (fun K => chN K "TooMany" "most"), (fun K => chM K "TooMany" "StoreError" true), (fun K => chM K "TooMany" "Missing" false), (fun K => chK K "TooMany" "There" false), (fun K => chK K "TooMany" "TooMany" true), (fun K => chK K "TooMany" "NoBase" false), (fun K => chK K "TooMany" "NoMoment" false), (fun K => chK K "TooMany" "Wrong" false), (fun K => chT K "TooMany" "LookupError" false), (fun K => chB K "NoBase" (tlB "ValueError") "ValueError.__new__"), (fun K => chF K "NoBase"), (fun K => chC K "NoBase"), (fun K => chN K "NoBase" "time"), (fun K => chM K "NoBase" "StoreError" true), (fun K => chM K "NoBase" "Missing" false), (fun K => chK K "NoBase" "There" false), (fun K => chK K "NoBase" "TooMany" false), (fun K => chK K "NoBase" "NoBase" true), (fun K => chK K "NoBase" "NoMoment" false), (fun K => chK K "NoBase" "Wrong" false), (fun K => chT K "NoBase" "LookupError" false), (fun K => (He.Fa.free "abs").ok K), (fun K => (He.Fa.free "len").ok K), (fun K => (He.Fa.free "range").ok K), (fun K => (He.Fa.free "sorted").ok K)] : List (PySem.W.Frag → Bool)) ++ ([(fun K => (He.Fa.free "isinstance").ok K), (fun K => (He.Fa.free "int").ok K), (fun K => (He.Fa.free "bool").ok K), (fun K => (He.Fa.free "list").ok K), (fun K => (He.Fa.free "repr").ok K), (fun K => (He.Fa.free "str").ok K), (fun K => (He.Fa.free "dict").ok K), (fun K => (He.Fa.free "max").ok K), (fun K => (He.Fa.free "LookupError").ok K)] : List (PySem.W.Frag → Bool))
def names : List Str := (["_wall", "StoreError", "Missing", "Wrong", "There", "TooMany", "NoBase", "NoMoment", "MOST_CONTENT", "MOST_TIME", "LONGEST", "LETTERS", "BASE", "MOST_PIECE", "MOST_FILES", "is_whole", "is_name", "is_time", "is_seal", "are_seals", "is_state", "MOST_ROWS", "MOST_LISTED", "are_wholes", "are_lists_by_name", "expect", "changes", "FULL", "KINDS", "MOST_LINKS"] : List Str) ++ (["fit_or_wrong", "own_state", "Links", "_law_bag", "_law_take", "_law_name", "_law_names", "_law_alike", "_law_seal", "_law_seals", "_law_state", "_law_other", "_law_rows", "_law_ahead", "_law_due", "_law_do", "_law_class", "_law_call", "_law_say", "_law_times", "_law_put", "_law_chain", "_law_told", "_law_same", "_law_seen"] : List Str)
abbrev R : PySem.W.OpenRow := PySem.W.OpenLaw.row PySem.Challenge.rw_restorechain_k43_bases_found
abbrev hk : PySem.W.Hook := hookF 5 fa fn
def ob (s : PySem.W.SharedT) : He.AlD := obsFG 5 fa fn (HandSHeadRun.getT s)
theorem ob_eq (s : PySem.W.SharedT) : ob s = hk.obs s.abs := obsFG_eq (HandSHeadRun.getT_eq s)
theorem run (w : World) : HandSHeadRun.RunEq R (PySem.W.view R.prog [60]) hk ob 4000 names w := by
  intro os
  kernel_rfl
theorem txt {K : PySem.W.Frag} {h : Heap} {mg : Str → Option Value} (X : K.In h) (G : h.Ns mainGlobals mg) (c : SaysF fa fn K) : Txt K mg where
  F_l_bag := fd_of (c.def_ 0 (d := d_l_bag) rfl)
  F_l_take := fd_of (c.def_ 1 (d := d_l_take) rfl)
  F_l_name := fd_of (c.def_ 2 (d := d_l_name) rfl)
  F_l_names := fd_of (c.def_ 3 (d := d_l_names) rfl)
  F_Links___init__ := fd_of (c.def_ 4 (d := d_Links___init__) rfl)
  F_Links_times := fd_of (c.def_ 5 (d := d_Links_times) rfl)
  F_fit_or_wrong := fd_of (c.def_ 6 (d := d_fit_or_wrong) rfl)
  F_is_whole := fd_of (c.def_ 7 (d := d_is_whole) rfl)
  F_is_time := fd_of (c.def_ 8 (d := d_is_time) rfl)
  F_Links_need_link := fd_of (c.def_ 9 (d := d_Links_need_link) rfl)
  F_Links_kind := fd_of (c.def_ 10 (d := d_Links_kind) rfl)
  F_Links_base := fd_of (c.def_ 11 (d := d_Links_base) rfl)
  F_own_state := fd_of (c.def_ 12 (d := d_own_state) rfl)
  F_Links_state := fd_of (c.def_ 13 (d := d_Links_state) rfl)
  F_l_seen := fd_of (c.def_ 14 (d := d_l_seen) rfl)
  F_l_alike := fd_of (c.def_ 15 (d := d_l_alike) rfl)
  F_is_name := fd_of (c.def_ 16 (d := d_is_name) rfl)
  F_is_seal := fd_of (c.def_ 17 (d := d_is_seal) rfl)
  F_are_seals := fd_of (c.def_ 18 (d := d_are_seals) rfl)
  F_is_state := fd_of (c.def_ 19 (d := d_is_state) rfl)
  F_Links_base_ahead := fd_of (c.def_ 20 (d := d_Links_base_ahead) rfl)
  F_Links_put := fd_of (c.def_ 21 (d := d_Links_put) rfl)
  F_Links_merge := fd_of (c.def_ 22 (d := d_Links_merge) rfl)
  F_Links_forget := fd_of (c.def_ 23 (d := d_Links_forget) rfl)
  F_l_call := fd_of (c.def_ 24 (d := d_l_call) rfl)
  F_l_class := fd_of (c.def_ 25 (d := d_l_class) rfl)
  F_l_say := fd_of (c.def_ 26 (d := d_l_say) rfl)
  F_l_seal := fd_of (c.def_ 27 (d := d_l_seal) rfl)
  F_l_seals := fd_of (c.def_ 28 (d := d_l_seals) rfl)
  F_l_state := fd_of (c.def_ 29 (d := d_l_state) rfl)
  F_law := fd_of (c.def_ 30 (d := d_law) rfl)
  F_Wrong___init__ := fd_of (c.def_ 31 (d := d_Wrong___init__) rfl)
  F_NoMoment___init__ := fd_of (c.def_ 32 (d := d_NoMoment___init__) rfl)
  F_There___init__ := fd_of (c.def_ 33 (d := d_There___init__) rfl)
  F_TooMany___init__ := fd_of (c.def_ 34 (d := d_TooMany___init__) rfl)
  F_NoBase___init__ := fd_of (c.def_ 35 (d := d_NoBase___init__) rfl)
  c_MOST_TIME := He.int_ok X G (c.fact 0 (f := (fun K => (He.Fa.int "MOST_TIME" 1000000).ok K)) rfl)
  c_LETTERS := He.str_ok X G (c.fact 1 (f := (fun K => (He.Fa.str "LETTERS" "abcdefghijklmnopqrstuvwxyz").ok K)) rfl)
  c_LONGEST := He.int_ok X G (c.fact 2 (f := (fun K => (He.Fa.int "LONGEST" 8).ok K)) rfl)
  c_MOST_PIECE := He.int_ok X G (c.fact 3 (f := (fun K => (He.Fa.int "MOST_PIECE" 16).ok K)) rfl)
  c_BASE := He.int_ok X G (c.fact 4 (f := (fun K => (He.Fa.int "BASE" 1001).ok K)) rfl)
  c_MOST_CONTENT := He.int_ok X G (c.fact 5 (f := (fun K => (He.Fa.int "MOST_CONTENT" 48).ok K)) rfl)
  c_MOST_FILES := He.int_ok X G (c.fact 6 (f := (fun K => (He.Fa.int "MOST_FILES" 8).ok K)) rfl)
  c_MOST_LINKS := He.int_ok X G (c.fact 7 (f := (fun K => (He.Fa.int "MOST_LINKS" 24).ok K)) rfl)
  c_FULL := He.str_ok X G (c.fact 8 (f := (fun K => (He.Fa.str "FULL" "full").ok K)) rfl)
  cg_KINDS := He.glo_ok X G (c.fact 9 (f := (fun K => (He.Fa.glo "KINDS").ok K)) rfl)
  ct_KINDS := He.tupB_ok (c.fact 10 (f := (fun K => He.tupB K "KINDS" [.str "full", .str "step", .str "wide"])) rfl)
  g_l_bag := He.glo_ok X G (c.fact 11 (f := (fun K => (He.Fa.glo "_law_bag").ok K)) rfl)
  g_l_take := He.glo_ok X G (c.fact 12 (f := (fun K => (He.Fa.glo "_law_take").ok K)) rfl)
  g_l_name := He.glo_ok X G (c.fact 13 (f := (fun K => (He.Fa.glo "_law_name").ok K)) rfl)
  g_l_names := He.glo_ok X G (c.fact 14 (f := (fun K => (He.Fa.glo "_law_names").ok K)) rfl)
  g_fit_or_wrong := He.glo_ok X G (c.fact 15 (f := (fun K => (He.Fa.glo "fit_or_wrong").ok K)) rfl)
  g_is_whole := He.glo_ok X G (c.fact 16 (f := (fun K => (He.Fa.glo "is_whole").ok K)) rfl)
  g_is_time := He.glo_ok X G (c.fact 17 (f := (fun K => (He.Fa.glo "is_time").ok K)) rfl)
  g_own_state := He.glo_ok X G (c.fact 18 (f := (fun K => (He.Fa.glo "own_state").ok K)) rfl)
  g_l_seen := He.glo_ok X G (c.fact 19 (f := (fun K => (He.Fa.glo "_law_seen").ok K)) rfl)
  g_l_alike := He.glo_ok X G (c.fact 20 (f := (fun K => (He.Fa.glo "_law_alike").ok K)) rfl)
  g_is_name := He.glo_ok X G (c.fact 21 (f := (fun K => (He.Fa.glo "is_name").ok K)) rfl)
  g_is_seal := He.glo_ok X G (c.fact 22 (f := (fun K => (He.Fa.glo "is_seal").ok K)) rfl)
  g_are_seals := He.glo_ok X G (c.fact 23 (f := (fun K => (He.Fa.glo "are_seals").ok K)) rfl)
  g_is_state := He.glo_ok X G (c.fact 24 (f := (fun K => (He.Fa.glo "is_state").ok K)) rfl)
  g_l_call := He.glo_ok X G (c.fact 25 (f := (fun K => (He.Fa.glo "_law_call").ok K)) rfl)
  g_l_class := He.glo_ok X G (c.fact 26 (f := (fun K => (He.Fa.glo "_law_class").ok K)) rfl)
  g_l_say := He.glo_ok X G (c.fact 27 (f := (fun K => (He.Fa.glo "_law_say").ok K)) rfl)
  g_l_seal := He.glo_ok X G (c.fact 28 (f := (fun K => (He.Fa.glo "_law_seal").ok K)) rfl)
  g_l_seals := He.glo_ok X G (c.fact 29 (f := (fun K => (He.Fa.glo "_law_seals").ok K)) rfl)
  g_l_state := He.glo_ok X G (c.fact 30 (f := (fun K => (He.Fa.glo "_law_state").ok K)) rfl)
  g_law := He.glo_ok X G (c.fact 31 (f := (fun K => (He.Fa.glo "law").ok K)) rfl)
  cg_Wrong := He.glo_ok X G (c.fact 32 (f := (fun K => (He.Fa.glo "Wrong").ok K)) rfl)
  cg_NoMoment := He.glo_ok X G (c.fact 33 (f := (fun K => (He.Fa.glo "NoMoment").ok K)) rfl)
  cg_There := He.glo_ok X G (c.fact 34 (f := (fun K => (He.Fa.glo "There").ok K)) rfl)
  cg_TooMany := He.glo_ok X G (c.fact 35 (f := (fun K => (He.Fa.glo "TooMany").ok K)) rfl)
  cg_NoBase := He.glo_ok X G (c.fact 36 (f := (fun K => (He.Fa.glo "NoBase").ok K)) rfl)
  cg_StoreError := He.glo_ok X G (c.fact 37 (f := (fun K => (He.Fa.glo "StoreError").ok K)) rfl)
  cg_Missing := He.glo_ok X G (c.fact 38 (f := (fun K => (He.Fa.glo "Missing").ok K)) rfl)
  cg_Links := He.glo_ok X G (c.fact 39 (f := (fun K => (He.Fa.glo "Links").ok K)) rfl)
  cl_Links := He.cls_ok (c.fact 40 (f := (fun K => (He.Fa.cls "Links").ok K)) rfl)
  mk_Links := He.mkr_ok (c.fact 41 (f := (fun K => (He.Fa.mkr "Links").ok K)) rfl)
  na_Links_sort_by := He.noat_ok (c.fact 42 (f := (fun K => (He.Fa.noat "Links" "sort_by").ok K)) rfl)
  na_Links_base_by := He.noat_ok (c.fact 43 (f := (fun K => (He.Fa.noat "Links" "base_by").ok K)) rfl)
  na_Links_whole_by := He.noat_ok (c.fact 44 (f := (fun K => (He.Fa.noat "Links" "whole_by").ok K)) rfl)
  me_Links_times := He.meth_ok (c.fact 45 (f := (fun K => (He.Fa.meth "Links" "times").ok K)) rfl)
  me_Links_need_link := He.meth_ok (c.fact 46 (f := (fun K => (He.Fa.meth "Links" "need_link").ok K)) rfl)
  me_Links_kind := He.meth_ok (c.fact 47 (f := (fun K => (He.Fa.meth "Links" "kind").ok K)) rfl)
  me_Links_base := He.meth_ok (c.fact 48 (f := (fun K => (He.Fa.meth "Links" "base").ok K)) rfl)
  me_Links_state := He.meth_ok (c.fact 49 (f := (fun K => (He.Fa.meth "Links" "state").ok K)) rfl)
  me_Links_base_ahead := He.meth_ok (c.fact 50 (f := (fun K => (He.Fa.meth "Links" "base_ahead").ok K)) rfl)
  me_Links_put := He.meth_ok (c.fact 51 (f := (fun K => (He.Fa.meth "Links" "put").ok K)) rfl)
  me_Links_merge := He.meth_ok (c.fact 52 (f := (fun K => (He.Fa.meth "Links" "merge").ok K)) rfl)
  me_Links_forget := He.meth_ok (c.fact 53 (f := (fun K => (He.Fa.meth "Links" "forget").ok K)) rfl)
  xb_Wrong := chB_VE (c.fact 54 (f := (fun K => chB K "Wrong" (tlB "ValueError") "ValueError.__new__")) rfl)
  xf_Wrong := chF_ok (c.fact 55 (f := (fun K => chF K "Wrong")) rfl)
  xc_Wrong := chC_ok (c.fact 56 (f := (fun K => chC K "Wrong")) rfl)
  xn_Wrong_at := id (c.fact 57 (f := (fun K => chN K "Wrong" "at")) rfl)
  xi_StoreError := chI_ok (c.fact 58 (f := (fun K => chI K "StoreError" "ValueError.__init__")) rfl)
  xm_Wrong_StoreError := chM_ok (c.fact 59 (f := (fun K => chM K "Wrong" "StoreError" true)) rfl)
  xm_Wrong_Missing := chM_ok (c.fact 60 (f := (fun K => chM K "Wrong" "Missing" false)) rfl)
  xk_Wrong_There := chK_ok (c.fact 61 (f := (fun K => chK K "Wrong" "There" false)) rfl)
  xk_Wrong_TooMany := chK_ok (c.fact 62 (f := (fun K => chK K "Wrong" "TooMany" false)) rfl)
  xk_Wrong_NoBase := chK_ok (c.fact 63 (f := (fun K => chK K "Wrong" "NoBase" false)) rfl)
  xk_Wrong_NoMoment := chK_ok (c.fact 64 (f := (fun K => chK K "Wrong" "NoMoment" false)) rfl)
  xk_Wrong_Wrong := chK_ok (c.fact 65 (f := (fun K => chK K "Wrong" "Wrong" true)) rfl)
  xk_Wrong_LookupError := chT_ok (c.fact 66 (f := (fun K => chT K "Wrong" "LookupError" false)) rfl)
  xb_NoMoment := chB_LE (c.fact 67 (f := (fun K => chB K "NoMoment" (tlB "LookupError") "LookupError.__new__")) rfl)
  xf_NoMoment := chF_ok (c.fact 68 (f := (fun K => chF K "NoMoment")) rfl)
  xc_NoMoment := chC_ok (c.fact 69 (f := (fun K => chC K "NoMoment")) rfl)
  xn_NoMoment_time := id (c.fact 70 (f := (fun K => chN K "NoMoment" "time")) rfl)
  xi_Missing := chI_ok (c.fact 71 (f := (fun K => chI K "Missing" "LookupError.__init__")) rfl)
  xm_NoMoment_StoreError := chM_ok (c.fact 72 (f := (fun K => chM K "NoMoment" "StoreError" false)) rfl)
  xm_NoMoment_Missing := chM_ok (c.fact 73 (f := (fun K => chM K "NoMoment" "Missing" true)) rfl)
  xk_NoMoment_There := chK_ok (c.fact 74 (f := (fun K => chK K "NoMoment" "There" false)) rfl)
  xk_NoMoment_TooMany := chK_ok (c.fact 75 (f := (fun K => chK K "NoMoment" "TooMany" false)) rfl)
  xk_NoMoment_NoBase := chK_ok (c.fact 76 (f := (fun K => chK K "NoMoment" "NoBase" false)) rfl)
  xk_NoMoment_NoMoment := chK_ok (c.fact 77 (f := (fun K => chK K "NoMoment" "NoMoment" true)) rfl)
  xk_NoMoment_Wrong := chK_ok (c.fact 78 (f := (fun K => chK K "NoMoment" "Wrong" false)) rfl)
  xk_NoMoment_LookupError := chT_ok (c.fact 79 (f := (fun K => chT K "NoMoment" "LookupError" true)) rfl)
  xb_There := chB_VE (c.fact 80 (f := (fun K => chB K "There" (tlB "ValueError") "ValueError.__new__")) rfl)
  xf_There := chF_ok (c.fact 81 (f := (fun K => chF K "There")) rfl)
  xc_There := chC_ok (c.fact 82 (f := (fun K => chC K "There")) rfl)
  xn_There_thing := id (c.fact 83 (f := (fun K => chN K "There" "thing")) rfl)
  xm_There_StoreError := chM_ok (c.fact 84 (f := (fun K => chM K "There" "StoreError" true)) rfl)
  xm_There_Missing := chM_ok (c.fact 85 (f := (fun K => chM K "There" "Missing" false)) rfl)
  xk_There_There := chK_ok (c.fact 86 (f := (fun K => chK K "There" "There" true)) rfl)
  xk_There_TooMany := chK_ok (c.fact 87 (f := (fun K => chK K "There" "TooMany" false)) rfl)
  xk_There_NoBase := chK_ok (c.fact 88 (f := (fun K => chK K "There" "NoBase" false)) rfl)
  xk_There_NoMoment := chK_ok (c.fact 89 (f := (fun K => chK K "There" "NoMoment" false)) rfl)
  xk_There_Wrong := chK_ok (c.fact 90 (f := (fun K => chK K "There" "Wrong" false)) rfl)
  xk_There_LookupError := chT_ok (c.fact 91 (f := (fun K => chT K "There" "LookupError" false)) rfl)
  xb_TooMany := chB_VE (c.fact 92 (f := (fun K => chB K "TooMany" (tlB "ValueError") "ValueError.__new__")) rfl)
  xf_TooMany := chF_ok (c.fact 93 (f := (fun K => chF K "TooMany")) rfl)
  xc_TooMany := chC_ok (c.fact 94 (f := (fun K => chC K "TooMany")) rfl)
  xn_TooMany_most := id (c.fact 95 (f := (fun K => chN K "TooMany" "most")) rfl)
  xm_TooMany_StoreError := chM_ok (c.fact 96 (f := (fun K => chM K "TooMany" "StoreError" true)) rfl)
  xm_TooMany_Missing := chM_ok (c.fact 97 (f := (fun K => chM K "TooMany" "Missing" false)) rfl)
  xk_TooMany_There := chK_ok (c.fact 98 (f := (fun K => chK K "TooMany" "There" false)) rfl)
  xk_TooMany_TooMany := chK_ok (c.fact 99 (f := (fun K => chK K "TooMany" "TooMany" true)) rfl)
  xk_TooMany_NoBase := chK_ok (c.fact 100 (f := (fun K => chK K "TooMany" "NoBase" false)) rfl)
  xk_TooMany_NoMoment := chK_ok (c.fact 101 (f := (fun K => chK K "TooMany" "NoMoment" false)) rfl)
  xk_TooMany_Wrong := chK_ok (c.fact 102 (f := (fun K => chK K "TooMany" "Wrong" false)) rfl)
  xk_TooMany_LookupError := chT_ok (c.fact 103 (f := (fun K => chT K "TooMany" "LookupError" false)) rfl)
  xb_NoBase := chB_VE (c.fact 104 (f := (fun K => chB K "NoBase" (tlB "ValueError") "ValueError.__new__")) rfl)
  xf_NoBase := chF_ok (c.fact 105 (f := (fun K => chF K "NoBase")) rfl)
  xc_NoBase := chC_ok (c.fact 106 (f := (fun K => chC K "NoBase")) rfl)
  xn_NoBase_time := id (c.fact 107 (f := (fun K => chN K "NoBase" "time")) rfl)
  xm_NoBase_StoreError := chM_ok (c.fact 108 (f := (fun K => chM K "NoBase" "StoreError" true)) rfl)
  xm_NoBase_Missing := chM_ok (c.fact 109 (f := (fun K => chM K "NoBase" "Missing" false)) rfl)
  xk_NoBase_There := chK_ok (c.fact 110 (f := (fun K => chK K "NoBase" "There" false)) rfl)
  xk_NoBase_TooMany := chK_ok (c.fact 111 (f := (fun K => chK K "NoBase" "TooMany" false)) rfl)
  xk_NoBase_NoBase := chK_ok (c.fact 112 (f := (fun K => chK K "NoBase" "NoBase" true)) rfl)
  xk_NoBase_NoMoment := chK_ok (c.fact 113 (f := (fun K => chK K "NoBase" "NoMoment" false)) rfl)
  xk_NoBase_Wrong := chK_ok (c.fact 114 (f := (fun K => chK K "NoBase" "Wrong" false)) rfl)
  xk_NoBase_LookupError := chT_ok (c.fact 115 (f := (fun K => chT K "NoBase" "LookupError" false)) rfl)
  b_abs := He.free_ok X G (c.fact 116 (f := (fun K => (He.Fa.free "abs").ok K)) rfl)
  b_len := He.free_ok X G (c.fact 117 (f := (fun K => (He.Fa.free "len").ok K)) rfl)
  b_range := He.free_ok X G (c.fact 118 (f := (fun K => (He.Fa.free "range").ok K)) rfl)
  b_sorted := He.free_ok X G (c.fact 119 (f := (fun K => (He.Fa.free "sorted").ok K)) rfl)
  b_isinstance := He.free_ok X G (c.fact 120 (f := (fun K => (He.Fa.free "isinstance").ok K)) rfl)
  b_int := He.free_ok X G (c.fact 121 (f := (fun K => (He.Fa.free "int").ok K)) rfl)
  b_bool := He.free_ok X G (c.fact 122 (f := (fun K => (He.Fa.free "bool").ok K)) rfl)
  b_list := He.free_ok X G (c.fact 123 (f := (fun K => (He.Fa.free "list").ok K)) rfl)
  b_repr := He.free_ok X G (c.fact 124 (f := (fun K => (He.Fa.free "repr").ok K)) rfl)
  b_str := He.free_ok X G (c.fact 125 (f := (fun K => (He.Fa.free "str").ok K)) rfl)
  b_dict := He.free_ok X G (c.fact 126 (f := (fun K => (He.Fa.free "dict").ok K)) rfl)
  b_max := He.free_ok X G (c.fact 127 (f := (fun K => (He.Fa.free "max").ok K)) rfl)
  b_LookupError := He.free_ok X G (c.fact 128 (f := (fun K => (He.Fa.free "LookupError").ok K)) rfl)
end RC
open PySem PySem.W PySem.Calls PyProof.Rows
set_option maxRecDepth 100000 in
set_option maxHeartbeats 0 in
theorem PySem.Challenge.cw_restorechain_k43_bases_found_holds : PySem.Challenge.rw_restorechain_k43_bases_found.Holds := by
  w_on; o_law
  refine HandSHeadRun.head_any (r := OpenLaw.row PySem.Challenge.rw_restorechain_k43_bases_found) (q := view (OpenLaw.row PySem.Challenge.rw_restorechain_k43_bases_found).prog [60]) (H := RC.hk) (ob := RC.ob) (M := 4000) (loose := RC.names)
    (d := HandSHeadRun.topDef (OpenLaw.row PySem.Challenge.rw_restorechain_k43_bases_found).prog 60) (kwd := []) RC.ob_eq (by kernel_rfl) (fun s => by kernel_rfl) RC.run
    (by kernel_rfl) (by kernel_rfl) (by kernel_rfl) (by rfl) (by first | assumption | decide +kernel) (by decide +kernel) ⟨rfl, rfl, rfl, rfl, rfl, by decide +kernel⟩ ?hw ?hc
  case hw => w_witness2
  case hc =>
    refine RC.walk_S (hi := by kernel_rfl) (l := PySem.Challenge.rw_restorechain_k43_bases_found) (n := 63) (k := 8) (x := "_law_script") (CX := fun _ => L2.CX0) rfl (by decide) (by kernel_rfl) ⟨rfl, by decide, by decide⟩ ?F (fun _ _ _ _ _ z => z)
    intro w mg fa h Y G hmg0
    obtain ⟨K, KX, c⟩ := Y
    have hmg : mg ("law" : PySem.Str) = some (.ref fa) := by
      have e : (HandSHeadRun.topDef (OpenLaw.row PySem.Challenge.rw_restorechain_k43_bases_found).prog 60).name = ("law" : PySem.Str) := by kernel_rfl
      rw [← e]
      exact hmg0
    have T := RC.txt KX G c
    have e := hmg.symm.trans T.g_law
    cases e
    exact ⟨K, _, RC.sp_law K, KX, fun s v => L2.FunD.bindsA (ps := ["_law_script"]) T.F_law (fun _ _ _ _ _ _ us hl => match us, hl with | [_], _ => rfl) s [v] rfl,
      RC.law_start K, fun base _ _ nd => RC.ok_law T nd⟩
