import PyProof.Rows.All
import Wide.All
import OpenK.AllK
import Wide.FinOn
import KE.KStateDown
import HandS.ForMost
import HandS.More
import HandS.Walk
import HandS.Wide
import HandS.IsInst
import HandS.RaiseMore
import HandS.Style
import HandS.Deep
import HandS.MakeKwOnly
import HandS.WordsExc
import HandS.Defaults
import HandS.Head0
import HandS.Head1
import HandS.Head2
import HandS.HeadEnd
import HandS.HeadHook1
import HandS.HeadHook2
import HandS.Codes
import HandS.WideMore
import KE.KIntText
import HandS.ExcInit
import HandS.ExcField
import HandS.ExcIs
import HandS.ExcOwn
import HandS.TryMany
import HandS.HotCalls
import HandS.Flow
import KE.KTryMore
import KE.KExcInit
import KE.KExcIs
import PyProof.Conv_int_bool
import HandS.DictComp
import HandS.DeepEq
import HandS.TupAny
import HandS.Conv
import HandS.TupSets
import PyProof.SeqIndex
import PyProof.Rows.SortShellAny
import HandS.DictTup
import HandS.SortOrd
import KE.KSortTupAny
import HandS.NoneIn
import PyProof.FString5
import HandS.DictEq
import PyProof.CollectIter
import PyProof.WalksMore
import HandS.Finally
import PySem.Challenge.RW_restorechain_k35_changes_told
set_option Elab.async false
set_option linter.all false
set_option maxRecDepth 100000
set_option maxHeartbeats 4000000
namespace RC
open PySem PySem.Spec PyProof.Rows L2
/-! ### resources -/
abbrev Cell := Addr × HO
def Ext (F F' : Hp) : Prop := ∀ a o, F a = some o → F' a = some o
theorem Ext.refl (F : Hp) : Ext F F := fun _ _ h => h
theorem Ext.trans {F G H : Hp} (a : Ext F G) (b : Ext G H) : Ext F H := fun x o h => b x o (a x o h)
theorem Ext.new {H : Hp} {p : Addr} {o : HO} (h : H p = none) : Ext H (upd H p o) := fun a u e => by
  rw [upd_ne (ne_of_none e h)]
  exact e
theorem Ext.rd {H H' : Hp} {a : Addr} {u : HO} (e : Ext H H') (h : Rd H a u) : Rd H' a u := by
  rcases h with h | ⟨o, h⟩
  · exact Or.inl (e a _ h)
  · exact Or.inr ⟨o, e a _ h⟩
theorem Ext.sqL {K : PySem.W.Frag} {H H' : Hp} {a : Addr} {xs : List V} (e : Ext H H') (h : SqL K H a xs) : SqL K H' a xs := by
  rcases h with h | h
  · exact Or.inl (e.rd h)
  · exact Or.inr h
theorem Ext.sqT {K : PySem.W.Frag} {H H' : Hp} {a : Addr} {xs : List V} (e : Ext H H') (h : SqT K H a xs) : SqT K H' a xs := by
  rcases h with h | h
  · exact Or.inl (e.rd h)
  · exact Or.inr h
mutual
theorem Dp_ext {K : PySem.W.Frag} {H H' : Hp} (e : Ext H H') : ∀ {v : V} {d : PyData}, Dp K H v d → Dp K H' v d
  | _, _, .non => .non
  | _, _, .bl b => .bl b
  | _, _, .int i => .int i
  | _, _, .str x => .str x
  | _, _, .lst h ds => .lst (e.sqL h) (DpAll_ext e ds)
  | _, _, .tup h ds => .tup (e.sqT h) (DpAll_ext e ds)
theorem DpAll_ext {K : PySem.W.Frag} {H H' : Hp} (e : Ext H H') : ∀ {vs : List V} {ds : List PyData}, DpAll K H vs ds → DpAll K H' vs ds
  | _, _, .nil => .nil
  | _, _, .cons h r => .cons (Dp_ext e h) (DpAll_ext e r)
end
structure Res where
  on : Hp → List Cell → Prop
  mono : ∀ F F' l, Ext F F' → on F l → on F' l
/-- the object o stands at p, owned -/
def pt (p : Addr) (o : HO) : Res := ⟨fun _ l => l = [(p, o)], fun _ _ _ _ h => h⟩
/-- the object o stands at p for ever -/
def fz (p : Addr) (o : HO) : Res := ⟨fun F l => l = [] ∧ F p = some o, fun _ _ _ e h => ⟨h.1, e _ _ h.2⟩⟩
/-- v is the data d for ever -/
def dt (K : PySem.W.Frag) (v : V) (d : PyData) : Res := ⟨fun F l => l = [] ∧ Dp K F v d, fun _ _ _ e h => ⟨h.1, Dp_ext e h.2⟩⟩
def sp2 (R S : Res) : Res := ⟨fun F l => ∃ l1 l2, l = l1 ++ l2 ∧ R.on F l1 ∧ S.on F l2, fun _ _ _ e ⟨l1, l2, h, a, b⟩ => ⟨l1, l2, h, R.mono _ _ _ e a, S.mono _ _ _ e b⟩⟩
def exi {α : Type} (R : α → Res) : Res := ⟨fun F l => ∃ x, (R x).on F l, fun _ _ _ e ⟨x, h⟩ => ⟨x, (R x).mono _ _ _ e h⟩⟩
def prp (φ : Prop) (R : Res) : Res := ⟨fun F l => φ ∧ R.on F l, fun _ _ _ e h => ⟨h.1, R.mono _ _ _ e h.2⟩⟩
def Sat (F : Hp) : List Res → List Cell → Prop
  | [], l => l = []
  | R :: Rs, l => ∃ l1 l2, l = l1 ++ l2 ∧ R.on F l1 ∧ Sat F Rs l2
theorem Sat.mono {F F' : Hp} (e : Ext F F') : ∀ {Rs : List Res} {l : List Cell}, Sat F Rs l → Sat F' Rs l
  | [], _, h => h
  | R :: _, _, ⟨l1, l2, h, a, b⟩ => ⟨l1, l2, h, R.mono _ _ _ e a, Sat.mono e b⟩
theorem Sat.perm {F : Hp} {Rs Rs' : List Res} (p : Rs.Perm Rs') : ∀ {l : List Cell}, Sat F Rs l → ∃ l', l.Perm l' ∧ Sat F Rs' l' := by
  induction p with
  | nil => exact fun h => ⟨_, .refl _, h⟩
  | cons R _ ih =>
    rintro l ⟨l1, l2, rfl, a, b⟩
    obtain ⟨l3, q, c⟩ := ih b
    exact ⟨l1 ++ l3, .append_left _ q, l1, l3, rfl, a, c⟩
  | swap R S Rs =>
    rintro l ⟨l1, l2, rfl, a, l3, l4, rfl, b, c⟩
    refine ⟨l3 ++ (l1 ++ l4), ?_, l3, l1 ++ l4, rfl, b, l1, l4, rfl, a, c⟩
    rw [← List.append_assoc, ← List.append_assoc]
    exact List.Perm.append_right _ List.perm_append_comm
  | trans _ _ ih1 ih2 =>
    intro l h
    obtain ⟨l1, p1, h1⟩ := ih1 h
    obtain ⟨l2, p2, h2⟩ := ih2 h1
    exact ⟨l2, p1.trans p2, h2⟩
structure MemC (F : Hp) (L : List Cell) (H : Hp) : Prop where
  ex : Ext F H
  own : ∀ c ∈ L, H c.1 = some c.2 ∧ F c.1 = none
  nd : (L.map (·.1)).Nodup
theorem MemC.perm {F : Hp} {L L' : List Cell} {H : Hp} (h : MemC F L H) (p : L.Perm L') : MemC F L' H :=
  ⟨h.ex, fun c hc => h.own c (p.mem_iff.mpr hc), (p.map _).nodup_iff.mp h.nd⟩
/-- THE STATE: the resources hold, apart from one another -/
def M (Rs : List Res) (H : Hp) : Prop := ∃ F L, Sat F Rs L ∧ MemC F L H
section
variable {Rs Rs' : List Res} {R S : Res} {H : Hp} {p : Addr} {o o' : HO}
theorem M.perm (h : M Rs H) (q : Rs.Perm Rs') : M Rs' H := by
  obtain ⟨F, L, a, b⟩ := h
  obtain ⟨L', q', a'⟩ := a.perm q
  exact ⟨F, L', a', b.perm q'⟩
theorem M.nil : M [] H := ⟨fun _ => none, [], rfl, ⟨(fun _ _ h => nomatch h), (fun _ h => nomatch h), List.nodup_nil⟩⟩
theorem M.tl (h : M (R :: Rs) H) : M Rs H := by
  obtain ⟨F, L, ⟨l1, l2, rfl, a, b⟩, m⟩ := h
  refine ⟨F, l2, b, m.ex, fun c hc => m.own c (List.mem_append_right _ hc), ?_⟩
  have := m.nd
  rw [List.map_append] at this
  exact (List.nodup_append.mp this).2.1
theorem perm_at : ∀ {Rs : List Res} (i : Nat) {R : Res}, Rs[i]? = some R → Rs.Perm (R :: Rs.eraseIdx i)
  | [], i, R, h => by simp at h
  | S :: Rs, 0, R, h => by
    have e : S = R := Option.some.inj h
    subst e
    exact .refl _
  | S :: Rs, i + 1, R, h => by
    have ih := perm_at (Rs := Rs) i (R := R) (by simpa using h)
    exact (List.Perm.cons S ih).trans (List.Perm.swap R S _)
/-- the i-th resource comes first -/
theorem M.at (h : M Rs H) (i : Nat) (e : Rs[i]? = some R) : M (R :: Rs.eraseIdx i) H := h.perm (perm_at i e)
theorem M.hd (h : M (pt p o :: Rs) H) : H p = some o := by
  obtain ⟨F, L, ⟨l1, l2, rfl, rfl, b⟩, m⟩ := h
  exact (m.own (p, o) (by simp)).1
theorem M.hdF (h : M (fz p o :: Rs) H) : H p = some o := by
  obtain ⟨F, L, ⟨l1, l2, rfl, ⟨_, e⟩, b⟩, m⟩ := h
  exact m.ex _ _ e
theorem M.hdD {K : PySem.W.Frag} {v : V} {d : PyData} (h : M (dt K v d :: Rs) H) : Dp K H v d := by
  obtain ⟨F, L, ⟨l1, l2, rfl, ⟨_, e⟩, b⟩, m⟩ := h
  exact Dp_ext m.ex e
theorem M.got (h : M Rs H) (i : Nat) (e : Rs[i]? = some (pt p o)) : H p = some o := (h.at i e).hd
theorem M.gotF (h : M Rs H) (i : Nat) (e : Rs[i]? = some (fz p o)) : H p = some o := (h.at i e).hdF
theorem M.gotD {K : PySem.W.Frag} {v : V} {d : PyData} (h : M Rs H) (i : Nat) (e : Rs[i]? = some (dt K v d)) : Dp K H v d := (h.at i e).hdD
/-- a new object -/
theorem M.new (h : M Rs H) (hp : H p = none) : M (pt p o :: Rs) (upd H p o) := by
  obtain ⟨F, L, a, m⟩ := h
  have fp : F p = none := by
    cases q : F p with
    | none => rfl
    | some u => rw [m.ex _ _ q] at hp; cases hp
  refine ⟨F, (p, o) :: L, ⟨[(p, o)], L, rfl, rfl, a⟩, ⟨m.ex.trans (Ext.new hp), fun c hc => ?_, ?_⟩⟩
  · rcases List.mem_cons.mp hc with rfl | hc
    · exact ⟨upd_same, fp⟩
    · have q := m.own c hc
      refine ⟨?_, q.2⟩
      rw [upd_ne (ne_of_none q.1 hp)]
      exact q.1
  · rw [List.map_cons, List.nodup_cons]
    refine ⟨fun hm => ?_, m.nd⟩
    obtain ⟨c, hc, e⟩ := List.mem_map.mp hm
    have q := (m.own c hc).1
    rw [e, hp] at q
    cases q
/-- an owned object is changed -/
theorem M.put (h : M (pt p o :: Rs) H) : M (pt p o' :: Rs) (upd H p o') := by
  obtain ⟨F, L, ⟨l1, l2, rfl, rfl, b⟩, m⟩ := h
  have fp : F p = none := (m.own (p, o) (by simp)).2
  have nd := m.nd
  rw [List.map_append] at nd
  have nd2 : ((p :: l2.map (·.1)) : List Addr).Nodup := nd
  have np := (List.nodup_cons.mp nd2).1
  refine ⟨F, (p, o') :: l2, ⟨[(p, o')], l2, rfl, rfl, b⟩, ⟨fun a u e => ?_, fun c hc => ?_, nd2⟩⟩
  · have : a ≠ p := fun z => by rw [z, fp] at e; cases e
    rw [upd_ne this]
    exact m.ex _ _ e
  · rcases List.mem_cons.mp hc with rfl | hc
    · exact ⟨upd_same, fp⟩
    · have q := m.own c (List.mem_append_right _ hc)
      refine ⟨?_, q.2⟩
      have : c.1 ≠ p := fun z => np (List.mem_map.mpr ⟨c, hc, z⟩)
      rw [upd_ne this]
      exact q.1
/-- an owned object stays as it is from now on -/
theorem M.fix (h : M (pt p o :: Rs) H) : M (fz p o :: Rs) H := by
  obtain ⟨F, L, ⟨l1, l2, rfl, rfl, b⟩, m⟩ := h
  have hp := m.own (p, o) (by simp)
  have nd := m.nd
  rw [List.map_append] at nd
  have nd2 : ((p :: l2.map (·.1)) : List Addr).Nodup := nd
  have np := (List.nodup_cons.mp nd2).1
  have ex : Ext F (upd F p o) := Ext.new hp.2
  refine ⟨upd F p o, l2, ⟨[], l2, rfl, ⟨rfl, upd_same⟩, b.mono ex⟩, ⟨fun a u e => ?_, fun c hc => ?_, (List.nodup_cons.mp nd2).2⟩⟩
  · by_cases z : a = p
    · subst z
      rw [upd_same] at e
      cases e
      exact hp.1
    · rw [upd_ne z] at e
      exact m.ex _ _ e
  · have q := m.own c (List.mem_append_right _ hc)
    refine ⟨q.1, ?_⟩
    have : c.1 ≠ p := fun z => np (List.mem_map.mpr ⟨c, hc, z⟩)
    rw [upd_ne this]
    exact q.2
theorem M.dupF (h : M (fz p o :: Rs) H) : M (fz p o :: fz p o :: Rs) H := by
  obtain ⟨F, L, ⟨l1, l2, rfl, ⟨rfl, e⟩, b⟩, m⟩ := h
  exact ⟨F, l2, ⟨[], l2, rfl, ⟨rfl, e⟩, [], l2, rfl, ⟨rfl, e⟩, b⟩, m⟩
theorem M.dupD {K : PySem.W.Frag} {v : V} {d : PyData} (h : M (dt K v d :: Rs) H) : M (dt K v d :: dt K v d :: Rs) H := by
  obtain ⟨F, L, ⟨l1, l2, rfl, ⟨rfl, e⟩, b⟩, m⟩ := h
  exact ⟨F, l2, ⟨[], l2, rfl, ⟨rfl, e⟩, [], l2, rfl, ⟨rfl, e⟩, b⟩, m⟩
theorem M.sp (h : M (sp2 R S :: Rs) H) : M (R :: S :: Rs) H := by
  obtain ⟨F, L, ⟨l1, l2, rfl, ⟨l3, l4, rfl, a, b⟩, c⟩, m⟩ := h
  exact ⟨F, _, ⟨l3, l4 ++ l2, by rw [List.append_assoc], a, l4, l2, rfl, b, c⟩, m⟩
theorem M.sp' (h : M (R :: S :: Rs) H) : M (sp2 R S :: Rs) H := by
  obtain ⟨F, L, ⟨l1, l2, rfl, a, l3, l4, rfl, b, c⟩, m⟩ := h
  exact ⟨F, _, ⟨l1 ++ l3, l4, by rw [List.append_assoc], ⟨l1, l3, rfl, a, b⟩, c⟩, m⟩
theorem M.ex {α : Type} {T : α → Res} (h : M (exi T :: Rs) H) : ∃ x, M (T x :: Rs) H := by
  obtain ⟨F, L, ⟨l1, l2, rfl, ⟨x, a⟩, c⟩, m⟩ := h
  exact ⟨x, F, _, ⟨l1, l2, rfl, a, c⟩, m⟩
theorem M.ex' {α : Type} {T : α → Res} (x : α) (h : M (T x :: Rs) H) : M (exi T :: Rs) H := by
  obtain ⟨F, L, ⟨l1, l2, rfl, a, c⟩, m⟩ := h
  exact ⟨F, _, ⟨l1, l2, rfl, ⟨x, a⟩, c⟩, m⟩
theorem M.pr {φ : Prop} (h : M (prp φ R :: Rs) H) : φ ∧ M (R :: Rs) H := by
  obtain ⟨F, L, ⟨l1, l2, rfl, ⟨x, a⟩, c⟩, m⟩ := h
  exact ⟨x, F, _, ⟨l1, l2, rfl, a, c⟩, m⟩
theorem M.pr' {φ : Prop} (x : φ) (h : M (R :: Rs) H) : M (prp φ R :: Rs) H := by
  obtain ⟨F, L, ⟨l1, l2, rfl, a, c⟩, m⟩ := h
  exact ⟨F, _, ⟨l1, l2, rfl, ⟨x, a⟩, c⟩, m⟩
/-- the i-th, owned, is changed; the places stay -/
theorem perm_set : ∀ {Rs : List Res} (i : Nat) {R S : Res}, Rs[i]? = some R → (S :: Rs.eraseIdx i).Perm (Rs.set i S)
  | [], i, R, S, h => by simp at h
  | T :: Rs, 0, R, S, h => .refl _
  | T :: Rs, i + 1, R, S, h => by
    have ih := perm_set (Rs := Rs) i (R := R) (S := S) (by simpa using h)
    exact (List.Perm.swap T S _).trans (List.Perm.cons T ih)
theorem M.putAt (h : M Rs H) (i : Nat) (e : Rs[i]? = some (pt p o)) : M (Rs.set i (pt p o')) (upd H p o') := ((h.at i e).put (o' := o')).perm (perm_set i e)
theorem M.fixAt (h : M Rs H) (i : Nat) (e : Rs[i]? = some (pt p o)) : M (Rs.set i (fz p o)) H := (h.at i e).fix.perm (perm_set i e)
theorem M.setAt (h : M Rs H) (i : Nat) (e : Rs[i]? = some R) (k : M (R :: Rs.eraseIdx i) H → M (S :: Rs.eraseIdx i) H) : M (Rs.set i S) H := (k (h.at i e)).perm (perm_set i e)
end
end RC

namespace RC
open PySem PySem.Spec PyProof.Rows L2
/-! ### a def's promise: the names may be bound in any order; g: it wants to know that nothing is being shown (repr) around it -/
structure FnX (g : Bool) (P : Program) (w : World) (K : PySem.W.Frag) (mg : Str → Option Value) (base : Heap) (CX : CXT) (k : Nat) (f : Addr) (fd : FuncData) (ps : List Str) (sp : Sp) : Prop where
  lenG : ∀ vs H Q E, sp vs H Q E → vs.length = ps.length
  runG : ∀ (B : Around) (out : List Env) (t : Shared) (H : Hp) (args : Args) (bs : List (Str × Value)) (us : List Value) (vs : List V) (Q : VK) (E : XK), (g = true → B.guards = some []) → Room k B → Env0 P w K mg base B out t H →
    BindsTo t fd args bs → bs.Perm (ps.zip us) → Vals vs us → sp vs H Q E → codeAny (model P w) B (.call (.ref f) args) (CR CX out P w H t Q E) t
theorem zip_names {α β : Type} : ∀ (as : List α) (bs : List β), (as.zip bs).map (·.1) = as.take bs.length
  | [], _ => by simp
  | _ :: _, [] => rfl
  | a :: as, b :: bs => by
    show a :: (as.zip bs).map (·.1) = a :: as.take bs.length
    rw [zip_names as bs]
theorem bindL_perm {kd : Str → Option NameKind} {l l' : List (Str × Value)} (p : l.Perm l') : (l.map (·.1)).Nodup → ∀ m, bindL kd l m = bindL kd l' m := by
  induction p with
  | nil => exact fun _ _ => rfl
  | cons x _ ih =>
    intro nd m
    obtain ⟨n, v⟩ := x
    have nd2 := (List.nodup_cons.mp nd).2
    unfold bindL
    split <;> exact ih nd2 _
  | swap x y l =>
    intro nd m
    obtain ⟨n, v⟩ := x
    obtain ⟨n', v'⟩ := y
    have ne : n' ≠ n := fun e => (List.nodup_cons.mp nd).1 (by rw [e]; exact List.mem_cons_self)
    show bindL kd ((n', v') :: (n, v) :: l) m = bindL kd ((n, v) :: (n', v') :: l) m
    unfold bindL
    unfold bindL
    by_cases h1 : kd n' = some .local <;> by_cases h2 : kd n = some .local <;> simp only [h1, h2, if_true, if_false]
    all_goals try rfl
    congr 1
    funext z
    by_cases e1 : z = n
    · subst e1
      simp [Ne.symm ne]
    · simp [e1]
  | trans p q ih1 ih2 =>
    intro nd m
    rw [ih1 nd m, ih2 ((p.map _).nodup_iff.mp nd) m]
theorem bindC_perm {kd : Str → Option NameKind} {l l' : List (Str × Value)} (p : l.Perm l') : (l.map (·.1)).Nodup → ∀ m, bindC kd l m = bindC kd l' m := by
  induction p with
  | nil => exact fun _ _ => rfl
  | cons x _ ih =>
    intro nd m
    obtain ⟨n, v⟩ := x
    have nd2 := (List.nodup_cons.mp nd).2
    unfold bindC
    split <;> exact ih nd2 _
  | swap x y l =>
    intro nd m
    obtain ⟨n, v⟩ := x
    obtain ⟨n', v'⟩ := y
    have ne : n' ≠ n := fun e => (List.nodup_cons.mp nd).1 (by rw [e]; exact List.mem_cons_self)
    show bindC kd ((n', v') :: (n, v) :: l) m = bindC kd ((n, v) :: (n', v') :: l) m
    unfold bindC
    unfold bindC
    by_cases h1 : kd n' = some .local <;> by_cases h2 : kd n = some .local <;> simp only [h1, h2, if_true, if_false]
    all_goals try rfl
    congr 1
    funext z
    by_cases e1 : z = n
    · subst e1
      simp [Ne.symm ne]
    · simp [e1]
  | trans p q ih1 ih2 =>
    intro nd m
    rw [ih1 nd m, ih2 ((p.map _).nodup_iff.mp nd) m]
section
variable {g : Bool} {P : Program} {w : World} {K : PySem.W.Frag} {mg : Str → Option Value} {base : Heap} {CX : CXT} {k : Nat} {f : Addr} {fd : FuncData} {ps : List Str} {sp : Sp}
theorem FnX.ok (F : FnX false P w K mg base CX k f fd ps sp) : FnOk P w K mg base CX k f fd ps sp :=
  ⟨F.lenG, fun B out t H args us vs Q E hr e b r h => F.runG B out t H args _ us vs Q E (fun z => nomatch z) hr e b (.refl _) r h⟩
theorem FnX.up {g' : Bool} (F : FnX g P w K mg base CX k f fd ps sp) (h : g = true → g' = true) : FnX g' P w K mg base CX k f fd ps sp :=
  ⟨F.lenG, fun B out t H args bs us vs Q E gu hr e b p r hs => F.runG B out t H args bs us vs Q E (fun z => gu (h z)) hr e b p r hs⟩
theorem FnX.mono {j : Nat} (F : FnX g P w K mg base CX j f fd ps sp) (h : j ≤ k) : FnX g P w K mg base CX k f fd ps sp :=
  ⟨F.lenG, fun B out t H args bs us vs Q E gu hr e b p r hs => F.runG B out t H args bs us vs Q E gu (hr.mono h) e b p r hs⟩
theorem okX {x qual : Str} {params : Arguments} {body : List Stmt} {scope : Scope} {dvs : List V} {kws : List (Str × V)} {N : List Str} (D : FunD K x qual params body scope dvs kws f fd) (S : FnScope N ps scope)
    (hlen : ∀ vs H Q E, sp vs H Q E → vs.length = ps.length)
    (hbody : ∀ (cdv : Value) (B : Around) (out : List Env) (t : Shared) (H : Hp) (vs : List V) (Q : VK) (E : XK), (g = true → B.guards = some []) → Room k (B.deeper (envOfC qual scope t.heap.objs.size f cdv)) → sp vs H Q E →
      ∃ tr, PSs (cxOf CX P w K mg base N qual scope f cdv B out t H E) body tr ∧ tr { nx := fun _ H' => Q .non H', rt := Q } (start N vs) H) :
    FnX g P w K mg base CX (k + 1) f fd ps sp := by
  obtain ⟨⟨oc, od, dV, kV, doc, pm, an, cdv, ct, osl, rfl, lk, hcd, _, _⟩, _⟩ := D
  constructor
  · exact hlen
  intro B out t H args bs us vs Q E hg hr env hb hperm rel hsp
  have hin : K.In t.heap := env.mod.kin.keeps fun b o q => (env.bs b o q).1
  have hno : t.heap.NoLimit := env.mod.nolimit.keeps fun b o q => (env.bs b o q).1
  have hll := hlen _ _ _ _ hsp
  have nd : (bs.map (·.1)).Nodup := by
    refine (hperm.map _).nodup_iff.mpr ?_
    rw [zip_names, List.take_of_length_le (by rw [← rel.length, hll]; exact Nat.le_refl _), ← S.pre]
    exact S.nd.sublist (List.take_sublist _ _)
  have hk : ∀ y ∈ bs, scope.names.lookup y.1 = some .local ∨
      (scope.names.lookup y.1 = some .cell ∧ ((cellsFrom (t.heap.objs.size + 1) scope.names []).lookup y.1).isSome = true) := by
    rintro ⟨n, v⟩ hy
    cases S.par n (List.of_mem_zip (hperm.mem_iff.mp hy)).1 with
    | inl q => exact .inl q
    | inr q => exact .inr ⟨q, PySem.W.cellsFrom_some _ _ _ (.inl q)⟩
  refine codeAny_call_function hr.depth (hin _ _ lk) rfl S.co S.gen rfl
    (PySem.W.codeRec_of hin hcd) (hb _ _ _ _ ?_)
  refine wpAny_newFunctionEnv_cells S.kind hk fun ev hev t1 ic => ?_
  subst hev
  rw [bindL_perm hperm nd, bindC_perm hperm nd] at ic
  refine ⟨hno.keeps ic.toInCall.keep, codeAny_func ?_⟩
  obtain ⟨tr, htr, hq⟩ := hbody cdv B out t H vs Q E hg (hr.deeper _) hsp
  have J : Inv (cxOf CX P w K mg base N qual scope f cdv B out t H E) [] (start N vs) H t1 :=
    inv_start S hr.hd env hll rel ic
  refine wpAny_mono (htr.run [] t1 (start N vs) H _ J hq) (fun fl t2 z => ?_) fun _ _ z => z
  cases fl with
  | next =>
    obtain ⟨s2, H2, J2, q2⟩ := z
    exact ⟨V.non, H2, J2.os, J2.bare, J2.base, J2.hok, rfl, q2⟩
  | ret u =>
    obtain ⟨v2, s2, H2, J2, r2, q2⟩ := z
    exact ⟨v2, H2, J2.os, J2.bare, J2.base, J2.hok, r2, q2⟩
  | brk =>
    obtain ⟨_, _, _, q2⟩ := z
    cases q2
  | cont =>
    obtain ⟨_, _, _, q2⟩ := z
    cases q2
end
section
variable {X : Cx} {g : Bool} {CX : CXT} {k n : Nat} {f : Addr} {fd : FuncData} {ps ps' ks : List Str} {sp : Sp} {ds : List Value} {dvs : List V} {E : XK}
theorem runX_fn {pins : List (Addr × Obj)} {σ : L2.St} {H : Hp} {s : Shared} {Q : VK} {us : List Value} {vs : List V} (F : FnX g X.prog X.w X.K X.mg X.base CX k f fd ps sp) (hg : g = true → X.A.guards = some []) (hr : Room k X.A)
    (hb : Binds X.K fd ps ds) (hd : Vals dvs ds) (hx : Passes CX X E) (I : Inv X pins σ H s) (r : Vals vs us) (h : sp (vs ++ dvs) H Q E) :
    wpAny (model X.prog X.w) X.A (call (.ref f) us) (EP X pins σ Q) X.xe s := by
  have rr : Vals (vs ++ dvs) (us ++ ds) := r.append hd
  have ll : (us ++ ds).length = ps.length := rr.length.symm.trans (F.lenG _ _ _ _ h)
  have go := F.runG X.A X.stack s H ⟨us, []⟩ _ (us ++ ds) (vs ++ dvs) Q E hg hr I.env0 (hb s us I.kIn ll) (.refl _) rr h
  refine wpAny_call (codeAny_mono go fun res s' hq => ?_)
  match res, hq with
  | .error e, hq => exact hx pins σ H s e s' I hq
  | .ok (.ret u), hq => exact I.after hq
  | .ok .next, hq => cases hq
  | .ok .brk, hq => cases hq
  | .ok .cont, hq => cases hq
theorem pe_callX {x : Str} {e : Expr} {es : List Expr} {t : TA} {p pos : Pos} (F : FnX g X.prog X.w X.K X.mg X.base CX k f fd ps sp) (hgu : g = true → X.A.guards = some []) (hr : Room k X.A) (hg : Gl X x) (hm : X.mg x = some (.ref f))
    (hk : PySem.W.keepIn X.K (.ref f) = true) (hb : Binds X.K fd ps ds) (hd : Vals dvs ds) (hx : Passes CX X E)
    (ha : PA X (e :: es) t) (hdb : (x == ("__debug__" : Str)) = false := by decide) (he : starEach (e :: es) X.env = (false, eval e X.env) :: starEach es X.env := by rfl)
    (hpl : (backTo pos (starEach es X.env)).any (·.1) = false := by rfl) : PE X (.Call (.Name x p) (e :: es) [] pos) (tCall sp dvs E t) := by
  constructor
  intro pins s σ H Q I h
  refine wpAny_Call_Name_kw (ld_glob I hg hm ?_ hdb)
  have body := thn (ha.run pos pins s σ H _ I h) (Q' := fun us s1 => X.K.In s1.heap ∧ wpAny (model X.prog X.w) X.A (call (.ref f) us) (EP X pins σ Q) X.xe s1)
    fun us s1 ⟨vs, H1, I1, r1, q1⟩ => ⟨I1.kIn, runX_fn F hgu hr hb hd hx I1 r1 q1⟩
  exact PySem.W.callWith_K (h₀ := X.base) I.ok.mod.kin hk body he hpl
/-- f(e, .., k = v, ..): bound as ps' says, turned by π to the parameters' order -/
theorem runX_kw {pins : List (Addr × Obj)} {σ : L2.St} {H : Hp} {s : Shared} {Q : VK} {us ws : List Value} {vs zs : List V} {gU : List Value → List Value → List Value} {gV : List V → List V → List V} (π : {α : Type} → List α → List α)
    (F : FnX g X.prog X.w X.K X.mg X.base CX k f fd ps sp) (hg : g = true → X.A.guards = some []) (hr : Room k X.A) (hb : KBn X.K fd ps' n ks gU gV) (hx : Passes CX X E)
    (h1 : ∀ vs us, Vals vs us → Vals (π vs) (π us)) (h2 : ∀ us : List Value, us.length = ps'.length → (ps'.zip us).Perm (ps.zip (π us)))
    (I : Inv X pins σ H s) (r : Vals vs us) (rz : Vals zs ws) (l1 : vs.length = n) (l2 : zs.length = ks.length) (l3 : (gV vs zs).length = ps'.length) (h : sp (π (gV vs zs)) H Q E) :
    wpAny (model X.prog X.w) X.A (call (.ref f) us (ks.zip ws)) (EP X pins σ Q) X.xe s := by
  have rr := hb.rel r rz
  have go := F.runG X.A X.stack s H ⟨us, ks.zip ws⟩ _ (π (gU us ws)) (π (gV vs zs)) Q E hg hr I.env0 (hb.to s us ws I.kIn (r.length.symm.trans l1) (rz.length.symm.trans l2)) (h2 _ (rr.length.symm.trans l3)) (h1 _ _ rr) h
  refine wpAny_call (codeAny_mono go fun res s' hq => ?_)
  match res, hq with
  | .error e, hq => exact hx pins σ H s e s' I hq
  | .ok (.ret u), hq => exact I.after hq
  | .ok .next, hq => cases hq
  | .ok .brk, hq => cases hq
  | .ok .cont, hq => cases hq
def tCallP (n m l : Nat) (π : {α : Type} → List α → List α) (sp : Sp) (gV : List V → List V → List V) (E : XK) (t tk : TA) : TE := fun σ H Q => t σ H fun vs H1 => tk σ H1 fun zs H2 => vs.length = n ∧ zs.length = m ∧ (gV vs zs).length = l ∧ sp (π (gV vs zs)) H2 Q E
theorem pe_callP {x : Str} {e : Expr} {es : List Expr} {kws : List Keyword} {t tk : TA} {p pos : Pos} {gU : List Value → List Value → List Value} {gV : List V → List V → List V} (π : {α : Type} → List α → List α)
    (F : FnX g X.prog X.w X.K X.mg X.base CX k f fd ps sp) (hgu : g = true → X.A.guards = some []) (hr : Room k X.A) (hg : Gl X x) (hm : X.mg x = some (.ref f))
    (hk : PySem.W.keepIn X.K (.ref f) = true) (hb : KBn X.K fd ps' n ks gU gV) (hx : Passes CX X E) (h1 : ∀ vs us, Vals vs us → Vals (π vs) (π us)) (h2 : ∀ us : List Value, us.length = ps'.length → (ps'.zip us).Perm (ps.zip (π us)))
    (ha : PA X (e :: es) t) (hkw : PK X kws tk) (hall : (backToKw pos (keywordEach kws X.env)).all (·.1.isSome) = true := by rfl) (hks : (backToKw pos (keywordEach kws X.env)).filterMap (·.1) = ks := by rfl)
    (hdb : (x == ("__debug__" : Str)) = false := by decide) (he : starEach (e :: es) X.env = (false, eval e X.env) :: starEach es X.env := by rfl)
    (hpl : ((backTo pos (starEach (e :: es) X.env)).any (·.1) || (backToKw pos (keywordEach kws X.env)).any (·.1.isNone)) = false := by rfl) :
    PE X (.Call (.Name x p) (e :: es) kws pos) (tCallP n ks.length ps'.length π sp gV E t tk) := by
  constructor
  intro pins s σ H Q I h
  refine wpAny_Call_Name_kw (ld_glob I hg hm ?_ hdb)
  refine PySem.W.callWith_KW (h₀ := X.base) I.ok.mod.kin hk hall
    (thn (ha.run pos pins s σ H _ I h) ?_) hpl he
  rintro us s1 ⟨vs, H1, I1, r1, q1⟩
  refine thn (hkw.run pos pins s1 σ H1 _ I1 q1) ?_
  rintro ws s2 ⟨zs, H2, I2, r2, l1, l2, l3, q2⟩
  refine ⟨I2.kIn, ?_⟩
  subst hks
  exact runX_kw π F hgu hr hb hx h1 h2 I2 r1 r2 l1 l2 l3 q2
end
/-- some places of a list -/
def pickL {α : Type} (is : List Nat) (l : List α) : List α := is.filterMap fun i => l[i]?
theorem pickL_vals {vs : List V} {us : List Value} (r : Vals vs us) : ∀ is : List Nat, Vals (pickL is vs) (pickL is us)
  | [] => .nil
  | i :: is => by
    unfold pickL
    cases e : vs[i]? with
    | none =>
      rw [List.filterMap_cons, List.filterMap_cons, e, r.none_of e]
      exact pickL_vals r is
    | some v =>
      obtain ⟨u, hu, ru⟩ := r.get e
      rw [List.filterMap_cons, List.filterMap_cons, e, hu]
      exact .cons ru (pickL_vals r is)
theorem permAt {α : Type} : ∀ {l : List α} (i : Nat) {x : α}, l[i]? = some x → l.Perm (x :: l.eraseIdx i)
  | [], i, x, h => by simp at h
  | y :: l, 0, x, h => by
    have e : y = x := Option.some.inj h
    subst e
    exact .refl _
  | y :: l, i + 1, x, h => (List.Perm.cons y (permAt (l := l) i (x := x) (by simpa using h))).trans (List.Perm.swap x y _)
/-! ### the law's end for such a def -/
theorem law_callN {ND : Heap → Prop} {P : Program} {w : World} {K : PySem.W.Frag} {mg mb : Str → Option Value} {CX : CXT} {k : Nat} {fa a : Addr} {fd : FuncData} {x : Str} {sp : Sp} {s1 : Shared} {vs : List Value} {ns : List Int}
    (KX : K.In s1.heap) (hns : s1.heap.Ns mainGlobals mg) (hb : s1.heap.Ns builtinsNs mb) (hbb : ∀ x : Str, x ≠ "__name__" → mb x = bootBuiltins x) (hlim : s1.heap.NoLimit) (hdig : ∀ h' : Heap, (∀ b o es ep, s1.heap.get? b = some o → o.data = .dict es ep → h'.get? b = some o) → ND h') (hg : s1.gens = #[])
    (ha : s1.heap.get? a = some { cls := .type "list", data := .seq vs.toArray }) (hi : IntsAre vs ns) (hl : ns.length ≤ sizeLine) (hr : Room k callerA)
    (F : ∀ base : Heap, K.In base → base.Ns mainGlobals mg → ND base → FnX true P w K mg base CX k fa fd [x] sp)
    (hbind : ∀ (s : Shared) (u : Value), BindsTo s fd ⟨[u], []⟩ [(x, u)])
    (hsp : ∀ H : Hp, SqL K H a (ns.map V.int) → sp [.ref a] H (fun v _ => v = .bl true) fun _ _ _ => False)
    (hCX : ∀ H e s', CX [] H s1 (fun _ _ _ => False) e s' → False) :
    codeAny (model P w) callerA (.call (.ref fa) ⟨[.ref a], []⟩) (fun r s' => r = .ok (.ret (.bool true)) ∧ OldK s1.heap s'.heap ∧ s'.os = s1.os ∧ AllBare s'.gens) s1 := by
  have rv := vals_ints hi
  -- the abstract heap: the script alone, locked, unless it is one of the module's own objects
  obtain ⟨H, hS, hok, hA, hK, hO⟩ : ∃ H : Hp, SqL K H a (ns.map V.int) ∧ HOk P w H s1.heap ∧ (∀ b, H b ≠ none → b = a) ∧ (H a ≠ none → K.lookup a = none) ∧
      ∀ b u, H b = some u → ∃ o v, u = .frz o v := by
    cases hk : K.lookup a with
    | some o =>
      have e := KX a o hk
      rw [ha] at e
      cases e
      refine ⟨fun _ => none, .inr ⟨_, vs.toArray, _, hk, rfl, rfl, rfl, ?_, by simpa using rv⟩, ?_, ?_, ?_, ?_⟩
      · rw [List.size_toArray, hi.length]
        exact hl
      · intro b u z
        cases (show (none : Option HO) = some u from z)
      · intro b z
        exact absurd rfl z
      · intro z
        exact absurd rfl z
      · intro b u z
        cases (show (none : Option HO) = some u from z)
    | none =>
      have at1 : upd (fun _ => none) a (.frz { cls := .type "list", data := .seq vs.toArray } (.lst (ns.map V.int))) a = some (HO.frz { cls := .type "list", data := .seq vs.toArray } (.lst (ns.map V.int))) := upd_same
      have at2 : ∀ b u, upd (fun _ => none) a (.frz { cls := .type "list", data := .seq vs.toArray } (.lst (ns.map V.int))) b = some u → b = a ∧ u = HO.frz { cls := .type "list", data := .seq vs.toArray } (.lst (ns.map V.int)) := by
        intro b u z
        by_cases q : b = a
        · subst q
          rw [upd_same] at z
          exact ⟨rfl, (Option.some.inj z).symm⟩
        · rw [upd_ne q] at z
          cases z
      refine ⟨_, .inl (.inr ⟨_, at1⟩), ?_, ?_, fun _ => rfl, ?_⟩
      · intro b u z
        obtain ⟨rfl, rfl⟩ := at2 b u z
        refine ⟨ha, ?_, vs, _, rv, ha⟩
        rw [List.length_map]
        exact hl
      · intro b z
        cases q : upd (fun _ => none) a (.frz { cls := .type "list", data := .seq vs.toArray } (.lst (ns.map V.int))) b with
        | none => exact absurd q z
        | some u => exact (at2 b u q).1
      · intro b u z
        exact ⟨_, _, (at2 b u z).2⟩
  have off : ∀ {b : Addr} {o : Obj} {es : Array DictEntry} {ep : Nat}, s1.heap.get? b = some o → o.data = .dict es ep → H b = none := by
    intro b o es ep e d
    cases q : H b with
    | none => rfl
    | some u =>
      have z : b = a := hA b (by rw [q]; simp)
      subst z
      rw [ha] at e
      cases e
      cases (show Data.seq vs.toArray _ = Data.dict es ep from d)
  have nsH : ∀ {b : Addr} {m : Str → Option Value}, s1.heap.Ns b m → (hidT s1.heap H).Ns b m := by
    rintro b m ⟨o, es, ep, e, d, r⟩
    exact ⟨o, es, ep, hidT_get e (off e d), d, r⟩
  have hKb : K.In (hidT s1.heap H) := by
    intro b o e
    refine hidT_get (KX b o e) ?_
    cases q : H b with
    | none => rfl
    | some u =>
      have z : b = a := hA b (by rw [q]; simp)
      subst z
      rw [hK (by rw [q]; simp)] at e
      cases e
  have hM : Mod K mg (hidT s1.heap H) := by
    obtain ⟨mc, h1, h2⟩ := hlim
    exact ⟨hKb, nsH hns, ⟨mb, nsH hb, hbb⟩, ⟨mc, nsH h1, h2⟩⟩
  have e0 : Env0 P w K mg (hidT s1.heap H) callerA [] s1 H := by
    refine ⟨rfl, hM, fun b o e => of_hidT e, Nat.le_of_eq (hidT_size _ _), trivial, fun b hb => ?_, hok, .of_eq hg⟩
    cases (show b ∈ ([] : List Addr) from hb)
  have go := (F _ hKb (nsH hns) (hdig _ fun b o es ep e d => hidT_get e (off e d))).runG callerA [] s1 H ⟨[.ref a], []⟩ _ [.ref a] [.ref a] _ _ (fun _ => rfl) hr e0 (hbind s1 (.ref a)) (.refl _) (.cons rfl .nil) (hsp H hS)
  refine codeAny_mono go fun res s' h => ?_
  match res, h with
  | .error e, h => exact (hCX H e s' h).elim
  | .ok .next, h => cases h
  | .ok .brk, h => cases h
  | .ok .cont, h => cases h
  | .ok (.ret u), h =>
    obtain ⟨v, H', os, bare, un, hok', r', q⟩ := h
    cases (show v = .bl true from q)
    cases (show u = Value.bool true from r')
    refine ⟨rfl, OldK.of_keep fun b o e => ?_, os, bare⟩
    cases q : H b with
    | none =>
      refine un.keep b o e q (fun z => ?_) (by simp)
      cases (show b ∈ ([] : List Addr) from z)
    | some u =>
      obtain ⟨ob, v2, rfl⟩ := hO b u q
      have z2 := un.frzs b ob _ q
      obtain ⟨e1, _⟩ := hok b _ q
      obtain ⟨e2, _⟩ := hok' b _ z2
      rw [e] at e1
      cases e1
      exact e2
theorem nd_keep {h h' : Heap} (x : h.NoDigits) (k : ∀ b o es ep, h.get? b = some o → o.data = .dict es ep → h'.get? b = some o) : h'.NoDigits := by
  obtain ⟨mc, ⟨o, es, ep, e, d, r⟩, q⟩ := x
  exact ⟨mc, ⟨o, es, ep, k _ _ _ _ e d, d, r⟩, q⟩
theorem walk_G {l : PySem.W.OpenLaw} {n k : Nat} {q : Program} {loose : List Str} {XP : (Str → Option Value) → Heap → Prop} {YP : World → Heap → Prop} {d : DefRec} {CX : World → CXT} {x : Str}
    (hn : l.most = some n) (hn2 : n ≤ sizeLine) (hdf : d.params.defaults = []) (hr : Room k callerA)
    (F : ∀ (w : World) (mg : Str → Option Value) (fa : Addr) (h : Heap), YP w h → h.Ns mainGlobals mg → mg d.name = some (.ref fa) →
      ∃ (K : PySem.W.Frag) (fd : FuncData) (sp : Sp), K.In h ∧ (∀ (s : Shared) (u : Value), BindsTo s fd ⟨[u], []⟩ [(x, u)]) ∧
        (∀ (H : Hp) (a : Addr) (ns : List Int), ns.length ≤ n → SqL K H a (ns.map V.int) → sp [.ref a] H (fun v _ => v = .bl true) fun _ _ _ => False) ∧
        ∀ base : Heap, K.In base → base.Ns mainGlobals mg → base.NoDigits → FnX true l.prog w K mg base (CX w) k fa fd [x] sp)
    (hCX : ∀ (w : World) (H : Hp) (s : Shared) (e : Value) (s' : Shared), CX w [] H s (fun _ _ _ => False) e s' → False) :
    PySem.W.WalkO q loose XP YP l.row.toRowW d [] (fun f vs => PySem.call f vs) := by
  refine Att.attach_call hn hdf ?_
  intro w s0 s1 mg mb fa o pm cd doc a vs ns G Y ho hd hcd hmg hobj hints hlen hgen
  obtain ⟨K, fd, sp, KX, hb, hsp, hF⟩ := F w mg fa _ Y G.T.g hmg
  exact law_callN KX G.T.g G.T.b G.T.builtins G.T.nolimit (fun h' k => nd_keep G.T.nodigits k) hgen hobj hints
    (Nat.le_trans hlen hn2) hr hF hb (fun H hS => hsp H a ns hlen hS) (fun H e s' => hCX w H s1 e s')
end RC

namespace RC
open PySem PySem.Spec PySem.Calls PySem.NumText PyProof.Rows L2
theorem wp_maxDigits {M : Model} {A : Around} {E : Value → Shared → Prop} {s : Shared} {Q : Nat → Shared → Prop} (hn : s.heap.NoDigits) (h : Q 4300 s) : wpAny M A Builtin.intMaxStrDigits Q E s := by
  obtain ⟨mc, hns, hnone⟩ := hn
  unfold Builtin.intMaxStrDigits
  refine wpAny_bind (wpAny_nsGet hns ?_)
  rw [hnone]
  exact wpAny_pure h
theorem wp_textL {M : Model} {A : Around} {E : Value → Shared → Prop} {s : Shared} {Q : Value → Shared → Prop} {v : Value} {text : List Nat} {n : Int} (hd : s.heap.NoDigits)
    (hs : ¬ (text.takeWhile (· != 0)).length ≤ 640) (hr : (int_private% "readNumeral") 4300 10 (text.takeWhile (· != 0)) = (int_private% "Numeral.value") n)
    (ha : ((text.takeWhile (· != 0)).length == text.length) = true) (h : Q (.int n s.toks) { s with toks := s.toks + 1 }) :
    wpAny M A ((int_private% "intFromText") v text 10) Q E s := by
  obtain ⟨hp, g, d, tk, os⟩ := s
  repeat (any_goals (first
    | assumption
    | (with_reducible refine wpAny_ite_false (decide_eq_false hs) ?_)
    | (with_reducible refine wpAny_ite_true (decide_eq_true ha) ?_)
    | (with_reducible refine wp_maxDigits hd ?_)
    | wp_step))
  all_goals (try rw [hr])
  all_goals (try dsimp only)
  repeat (any_goals (first
    | assumption
    | (with_reducible refine wpAny_ite_true (decide_eq_true ha) ?_)
    | wp_step))
structure HidL (p : Prop) : Prop where
  out : p
theorem meets_textL {x : PySem.Str} {u : Tok} {n : Int} (hl : ¬ (numSeenOf x).length ≤ 640) (hz : x.length ≤ sizeLine) (hn : PySem.intText? x = some n) :
    Meets (Builtin.«int.__new__» ⟨[.type "int", .str x u], []⟩) (fun _ R s => s.heap.NoDigits ∧ R (.ok (.ret (.int n s.toks))) { s with toks := s.toks + 1 }) := by
  intro prog w A R s h
  obtain ⟨hd, h⟩ := h
  refine wpAny_mono (Q := fun fin s' => ∃ v, fin = .done (.ret v) ∧ R (.ok (.ret v)) s') ?_ (fun fin s' h' => by obtain ⟨v, rfl, hv⟩ := h'; exact hv) fun _ _ x => x
  obtain ⟨hp, g, d, tk, os⟩ := s
  have f1 := F.conv_sub_int
  have f2 := F.madeHere_int
  have f3 := PySem.W.KIN.str_int
  have f4 := PySem.W.KIN.str_idx
  have f5 := PySem.W.KIN.str_trunc
  have f6 : typeOf (.str x u) = pure (.type "str") := rfl
  have hr : (int_private% "readNumeral") 4300 10 (numSeenOf x) = (int_private% "Numeral.value") n ∧ ((numSeenOf x).length == (numTextOf x).length) = true := by
    rcases read4300 x hz with ⟨m, h1, h2, h3⟩ | ⟨h1, _⟩
    · rw [hn] at h1
      injection h1 with h1
      subst h1
      exact ⟨h3, h2⟩
    · rw [hn] at h1
      cases h1
  have hk := HidL.mk (And.intro hl hr)
  have hh := HidL.mk hd
  clear hl hr hn hz hd
  repeat (any_goals (first
    | assumption
    | ((with_reducible show wpAny _ _ ((int_private% "intFromText") _ _ _) _ _ _); refine wp_textL hh.out hk.out.1 hk.out.2.1 hk.out.2.2 ?_)
    | wp_step))
  all_goals first | exact ⟨_, rfl, h⟩ | skip
/-- int(text), of plain signs -/
def rIntT : List V → Hp → VK → Prop := fun xs H Q => ∃ a n, xs = [.str a] ∧ PySem.intText? a = some n ∧ a.cps.all (· < 128) = true ∧ a.length ≤ sizeLine ∧ Q (.int n) H
theorem cr_intT {X : Cx} (nd : X.base.NoDigits) : CallR X (.type "int") rIntT := by
  intro pins s σ H xs us Q I rs h
  obtain ⟨a, n, rfl, hn, ha, hz, h⟩ := h
  cases rs with
  | cons r1 rs =>
    cases rs
    obtain ⟨t, rfl⟩ := r1
    by_cases hl : a.length ≤ 640
    · exact PySem.W.KIN.call_text hn hl ⟨.int n, H, I.tok _, ⟨_, rfl⟩, h⟩
    · have e : numTextOf a = a.cps.toList := if_pos ha
      have hs : ¬ (numSeenOf a).length ≤ 640 := by
        rcases read4300 a hz with ⟨m, h1, h2, h3⟩ | ⟨h1, _⟩
        · have z := eq_of_beq h2
          rw [z, e, Array.length_toList]
          exact hl
        · rw [hn] at h1
          cases h1
      exact call_int_1 (meets_textL hs hz hn) ⟨nd.keeps fun b o q => (I.env0.bs b o q).1, rfl, ⟨.int n, H, I.tok _, ⟨_, rfl⟩, h⟩⟩
/-- a text of one sign, times a number -/
def rRepS : R2 := fun x y H Q => ∃ (c : Nat) (n : Int), x = .str (SX.S [c]) ∧ y = .int n ∧ 1 ≤ n ∧ n ≤ 100000 ∧ Q (.str (SX.S (List.replicate n.toNat c))) H
theorem rep_one (c : Nat) : ∀ (k : Nat) (acc : Array Nat), (List.replicate k #[c]).foldl (· ++ ·) acc = acc ++ (List.replicate k c).toArray
  | 0, acc => by simp
  | k + 1, acc => by
    rw [List.replicate_succ, List.foldl_cons, rep_one c k, List.replicate_succ]
    refine Array.toList_inj.mp ?_
    simp only [Array.toList_append, List.toList_toArray, List.append_assoc]
    rfl
theorem op_repS {X : Cx} : OpR X (binaryOp .Mult) rRepS := by
  intro pins s σ H x y v u Q I rx ry h
  obtain ⟨c, n, rfl, rfl, h1, h2, q⟩ := h
  obtain ⟨t, rfl⟩ := rx
  obtain ⟨t2, rfl⟩ := ry
  have hl : (SX.S [c]).length = 1 := SX.S_len [c]
  refine PySem.P.mul_str (by rw [decide_eq_false (by omega), decide_eq_false (by omega)]; rfl) (fun _ _ => ?_) (fun _ _ => ?_) ?_
  · rw [hl]
    have : (1 : Int) ≤ (2 ^ 63 - 1) / n := (Int.le_ediv_iff_mul_le (by omega)).mpr (by omega)
    omega
  · rw [hl]
    unfold Builtin.Str.tooLong
    rw [decide_eq_false]
    have := sizeLine_eq
    omega
  · rw [if_neg (by omega)]
    by_cases e : n = 1
    · subst e
      rw [if_pos (by rfl)]
      exact ⟨.str _, H, I, ⟨_, rfl⟩, q⟩
    · rw [if_neg (by rw [hl]; simp [e])]
      have e2 : (⟨(List.replicate n.toNat (SX.S [c]).cps).foldl (· ++ ·) #[]⟩ : Str) = SX.S (List.replicate n.toNat c) := by
        show (⟨(List.replicate n.toNat #[c]).foldl (· ++ ·) #[]⟩ : Str) = _
        rw [rep_one]
        simp
      rw [e2]
      refine ⟨?_, ⟨.str _, H, I.tok _, ⟨_, rfl⟩, q⟩⟩
      rw [SX.S_len, List.length_replicate]
      have := sizeLine_eq
      omega
end RC

namespace RC
open PySem PySem.Spec PyProof.Rows L2
/-! ### rules for any kinds of operands -/
section
variable {X : Cx}
/-- two lists, each of any standing -/
def rCatS (K : PySem.W.Frag) : R2 := fun x y H Q => ∃ l b xs zs, x = .ref l ∧ y = .ref b ∧ SqL K H l xs ∧ SqL K H b zs ∧ xs.length + zs.length ≤ sizeLine ∧ ∀ p, H p = none → Q (.ref p) (upd H p (.lst (xs ++ zs)))
theorem op_catS : OpR X (binaryOp .Add) (rCatS X.K) := by
  intro pins s σ H x y v u Q I rx ry h
  obtain ⟨l, b, xs, zs, rfl, rfl, hH, hB, hz, q⟩ := h
  cases rx
  cases ry
  obtain ⟨its, r, ⟨⟨cls, dd, data, sl⟩, n, ho, hc, _, hd⟩, _⟩ := I.list hH
  obtain ⟨its2, r2, ⟨⟨cls2, dd2, data2, sl2⟩, n2, ho2, hc2, _, hd2⟩, _⟩ := I.list hB
  simp only at hc hd hc2 hd2
  subst hc hd hc2 hd2
  have ea : its.toArray ++ its2.toArray = (its ++ its2).toArray := by simp
  have l1 := r.length
  have l2 := r2.length
  refine concat_meets ⟨_, ho, rfl⟩ ⟨_, ho2, rfl⟩ noFill_list_add seq_list_add PySem.F.slot_list_add PySem.F.entry_list_add (PySem.F.args_list_add_2 _ _) (list_addW l b its.toArray its2.toArray n n2 dd dd2 sl sl2 (by rw [List.size_toArray, List.size_toArray]; omega)) ⟨ho, ho2, ?_⟩
  rw [ea]
  exact ⟨.ref _, _, I.lnew (t' := s.toks) (r.append r2) (by rw [List.length_append]; omega), rfl, q _ I.fresh⟩
def uAdd (K : PySem.W.Frag) : R2 := fun x y H Q => rI0 (fun i j => .int (i + j)) x y H Q ∨ (∃ i j, x = .str i ∧ y = .str j ∧ i.length + j.length ≤ sizeLine ∧ Q (.str (i ++ j)) H) ∨ rCatS K x y H Q ∨ rCatT K x y H Q
theorem uo_add : OpR X (binaryOp .Add) (uAdd X.K) := op_add.or (op_add_str.or (op_catS.or op_catT))
def uSub : R2 := rI0 fun i j => .int (i - j)
theorem uo_sub : OpR X (binaryOp .Sub) uSub := op_sub
def uMul : R2 := fun x y H Q => rI CMul (fun i j => .int (i * j)) x y H Q ∨ rI CMulW (fun i j => .int (i * j)) x y H Q ∨ rRep x y H Q ∨ rRepS x y H Q
theorem uo_mul : OpR X (binaryOp .Mult) uMul := op_mul.or (op_mulW.or (op_rep.or op_repS))
def uMod : R2 := rI (fun _ j => 0 < j) fun i j => .int (i % j)
theorem uo_mod : OpR X (binaryOp .Mod) uMod := op_mod
def uDiv : R2 := rI CDivW fun i j => .int (i / j)
theorem uo_div : OpR X (binaryOp .FloorDiv) uDiv := op_fdivW
def uPow : R2 := rI CPow fun i j => .int (i ^ j.toNat)
theorem uo_pow : OpR X (binaryOp .Pow) uPow := op_pow
/-- op= -/
def iAdd : R2 := fun x y H Q => rI0 (fun i j => .int (i + j)) x y H Q ∨ rExt2 x y H Q
theorem io_add : OpR X (inplaceOp .Add) iAdd := iop_add.or iop_ext
def iSub : R2 := rI0 fun i j => .int (i - j)
theorem io_sub : OpR X (inplaceOp .Sub) iSub := iop_sub
def iMul : R2 := rI CMul fun i j => .int (i * j)
theorem io_mul : OpR X (inplaceOp .Mult) iMul := iop_mul
def iDiv : R2 := rI CDiv fun i j => .int (i / j)
theorem io_div : OpR X (inplaceOp .FloorDiv) iDiv := iop_fdiv
/-- == and != of scalars, of data -/
def uEq (K : PySem.W.Frag) : R2 := fun x y H Q => rEq x y H Q ∨ rEqD K x y H Q
theorem uo_eq (hu : X.A.units + 64 < cLine) : OpR X (compareOp .Eq) (uEq X.K) := op_eq.or (op_eqD hu)
def uNe (K : PySem.W.Frag) : R2 := fun x y H Q => rNe x y H Q ∨ rNeD K x y H Q
theorem uo_ne (hu : X.A.units + 64 < cLine) : OpR X (compareOp .NotEq) (uNe X.K) := op_ne.or (op_neD hu)
def uLt : R2 := rI0 fun i j => .bl (decide (i < j))
def uLe : R2 := rI0 fun i j => .bl (decide (i ≤ j))
def uGt : R2 := rI0 fun i j => .bl (decide (j < i))
def uGe : R2 := rI0 fun i j => .bl (decide (j ≤ i))
theorem uo_lt : OpR X (compareOp .Lt) uLt := op_lt
theorem uo_le : OpR X (compareOp .LtE) uLe := op_le
theorem uo_gt : OpR X (compareOp .Gt) uGt := op_gt
theorem uo_ge : OpR X (compareOp .GtE) uGe := op_ge
/-- o[i] by values, o[i] = v by values: lists, dicts -/
def gIx (K : PySem.W.Frag) : V → V → Hp → VK → Prop := fun o i H Q => (∃ (p : Addr) (xs : List V) (n : Int) (v : V), o = .ref p ∧ i = .int n ∧ SqL K H p xs ∧ 0 ≤ n ∧ xs[n.toNat]? = some v ∧ Q v H) ∨ ∃ p v, o = .ref p ∧ DGet H p i (some v) ∧ Q v H
theorem get_any (hu : X.A.units + 1 < cLine) : PGet X (gIx X.K) := by
  intro pins s σ H o i ov iv Q I r1 r2 h
  rcases h with ⟨p, xs, n, v, rfl, rfl, hs, h0, hx, q⟩ | ⟨p, v, rfl, hd, q⟩
  · cases (show ov = Value.ref p from r1)
    obtain ⟨tk, rfl⟩ := r2
    obtain ⟨its, rv, pl, hz⟩ := I.list hs
    obtain ⟨u, hu, ru⟩ := rv.get hx
    have hlt : n.toNat < xs.length := (List.getElem?_eq_some_iff.mp hx).1
    have hle : n < 2 ^ 63 := by
      have := line63
      omega
    exact wpAny_getItem_list pl.isList h0 hle (by simpa using hu) ⟨v, H, I, ru, q⟩
  · cases (show ov = Value.ref p from r1)
    exact d_getItem hu I hd r2 fun w' s' I' rw' => ⟨v, H, I', rw', q⟩
def uSet : V → V → V → Hp → (Hp → Prop) → Prop := fun o i v H Q => rSetL o i v H Q ∨ ∃ p H', o = .ref p ∧ DPut H p i v H' ∧ Q H'
theorem set_any (hu : X.A.units + 1 < cLine) : PSet X uSet := by
  intro pins s σ H o i v ov iv u Q I r1 r2 r3 h
  rcases h with h | ⟨p, H', rfl, hd, q⟩
  · exact set_list pins s σ H o i v ov iv u Q I r1 r2 r3 h
  · cases (show ov = Value.ref p from r1)
    exact d_setItem hu I hd r2 r3 fun s' I' => ⟨H', I', q⟩
theorem ip_of {op : Operator} {r : R2} (h : OpR X (inplaceOp op) r) : PIp X op r := fun pins s σ H x y v u Q I a b q => h pins s σ H x y v u Q I a b q
/-- repr of data -/
def rRepr (K : PySem.W.Frag) : List V → Hp → VK → Prop := fun xs H Q => ∃ v d, xs = [v] ∧ Dp K H v d ∧ d.showable = true ∧ d.canLay0 = true ∧ d.depth ≤ 60 ∧ d.shown.length ≤ sizeLine ∧ Q (.str d.shown) H
theorem cr_repr (hg : X.A.guards = some []) (hu : X.A.units + 64 < cLine) : CallR X (.builtin "repr") (rRepr X.K) := by
  intro pins s σ H xs us Q I r h
  obtain ⟨v, d, rfl, hd, hs, hc, hp, hz, q⟩ := h
  obtain ⟨u, rfl, ru⟩ := vals1 r
  obtain ⟨as, rd⟩ := Dp.reads I d v u hd ru
  cases hd with
  | non =>
    cases (show u = Value.none from ru)
    refine PySem.P.repr_of_none ⟨.str _, H, I.tok _, ⟨_, rfl⟩, ?_⟩
    simpa only [PyData.shown] using q
  | bl b =>
    cases (show u = Value.bool b from ru)
    refine PySem.P.repr_of_bool ⟨.str _, H, I.tok _, ⟨_, rfl⟩, ?_⟩
    simpa only [PyData.shown] using q
  | int i =>
    obtain ⟨t, rfl⟩ := ru
    refine PySem.P.repr_of_int (by simpa [PyData.showable] using hs) ⟨.str _, H, I.tok _, ⟨_, rfl⟩, ?_⟩
    simpa only [PyData.shown] using q
  | str x =>
    obtain ⟨t, rfl⟩ := ru
    refine PySem.P.repr_of_str ⟨.str _, H, I.tok _, ⟨_, rfl⟩, ?_⟩ (by simpa only [PyData.shown] using hz)
    simpa only [PyData.shown] using q
  | lst h1 h2 =>
    rename_i a ys ds
    cases (show u = Value.ref a from ru)
    exact repr_of_reads' rd hs (PyData.noDict_hsm (PyData.hasDict_of_canLay _ hc)) hg (by omega) (fun _ _ e => e) (fun h' u tk k => ⟨.str _, H, I.kept k, ⟨_, rfl⟩, q⟩) hz
  | tup h1 h2 =>
    rename_i a ys ds
    cases (show u = Value.ref a from ru)
    exact repr_of_reads' rd hs (PyData.noDict_hsm (PyData.hasDict_of_canLay _ hc)) hg (by omega) (fun _ _ e => e) (fun h' u tk k => ⟨.str _, H, I.kept k, ⟨_, rfl⟩, q⟩) hz
/-- len -/
def uLen (K : PySem.W.Frag) : List V → Hp → VK → Prop := fun xs H Q => (∃ x n, xs = [x] ∧ LenV K x H n ∧ Q (.int n) H) ∨ ∃ d kvs, xs = [.ref d] ∧ Rd H d (.dK kvs) ∧ Q (.int (kvs.length : Nat)) H
theorem call_lenRd : CallR X (.builtin "len") (fun xs H Q => ∃ a kvs, xs = [V.ref a] ∧ Rd H a (.dK kvs) ∧ Q (.int (kvs.length : Nat)) H) := by
  intro pins s σ H xs us Q I r h
  obtain ⟨a, kvs, rfl, ha, q⟩ := h
  obtain ⟨u, rfl, ru⟩ := vals1 r
  cases ru
  exact d_len I ha fun t s' I' => ⟨.int kvs.length, H, I', ⟨t, rfl⟩, q⟩
theorem cr_len : CallR X (.builtin "len") (uLen X.K) := call_len.or call_lenRd
/-- a constant of the module -/
theorem pe_globI {x : Str} {i : Int} {pos : Pos} (hg : Gl X x) (hm : ∃ t, X.mg x = some (.int i t)) (hd : (x == ("__debug__" : Str)) = false := by decide) : PE X (.Name x pos) (tC (.int i)) := by
  obtain ⟨t, hm⟩ := hm
  exact pe_glob hg hm ⟨t, rfl⟩ hd
theorem pe_globS {x z : Str} {pos : Pos} (hg : Gl X x) (hm : ∃ t, X.mg x = some (.str z t)) (hd : (x == ("__debug__" : Str)) = false := by decide) : PE X (.Name x pos) (tC (.str z)) := by
  obtain ⟨t, hm⟩ := hm
  exact pe_glob hg hm ⟨t, rfl⟩ hd
/-- o[i] -/
def uIx (K : PySem.W.Frag) : R2 := rIx K
theorem ix_any : IxR X (uIx X.K) := ix_seq
/-- slices of lists, tuples, texts -/
def uSl (K : PySem.W.Frag) : V → Option Int → Option Int → Hp → VK → Prop := fun x lo hi H Q => rSlL K x lo hi H Q ∨ rSlT K x lo hi H Q
theorem sl_any : SlR X (uSl X.K) := sl_list.or sl_tup
end
/-! ### readings, step by step -/
section
variable {K : PySem.W.Frag} {σ : L2.St} {H : Hp} {Q : VK} {D : Ends} {t u : TS} {te ta tb tc : TE} {tt : TT} {Rs : List Res} {E : XK}
theorem g_seq (k : t { D with nx := u D } σ H) : tSeq t u D σ H := k
theorem g_next (k : D.nx σ H) : tNext D σ H := k
theorem g_asg {i : Nat} (k : te σ H fun x H1 => D.nx (σ.set i (some x)) H1) : tAsg te (gName i) D σ H := k
theorem g_asgX {g : TG} (k : te σ H fun x H1 => g x σ H1 D.nx) : tAsg te g D σ H := k
theorem g_drop (k : te σ H fun _ H1 => D.nx σ H1) : tDrop te D σ H := k
theorem g_ret (k : te σ H D.rt) : tRet te D σ H := k
theorem g_retN (k : D.rt .non H) : tRetN D σ H := k
theorem g_if (k : tt σ H fun b H1 => if b = true then t D σ H1 else u D σ H1) : tIfS tt t u D σ H := k
theorem g_nx {f r b c} (k : f σ H) : (Ends.mk f r b c).nx σ H := k
theorem g_rt {f b c} {r : VK} {v : V} (k : r v H) : (Ends.mk f r b c).rt v H := k
theorem g_bk {f b c} {r : VK} (k : b σ H) : (Ends.mk f r b c).bk σ H := k
theorem g_ct {f b c} {r : VK} (k : c σ H) : (Ends.mk f r b c).ct σ H := k
theorem g_var {i : Nat} {v : V} (h : σ[i]? = some (some v)) (k : Q v H) : tVar i σ H Q := ⟨v, h, k⟩
theorem g_c {v : V} (k : Q v H) : tC v σ H Q := k
theorem g_op {r : R2} (k : ta σ H fun x H1 => tb σ H1 fun y H2 => r x y H2 Q) : tOp r ta tb σ H Q := k
theorem g_un {r : V → Hp → VK → Prop} (k : ta σ H fun x H1 => r x H1 Q) : tUn r ta σ H Q := k
theorem g_nil {Q : List V → Hp → Prop} (k : Q [] H) : tNil σ H Q := k
theorem g_cons {tr : TA} {Q : List V → Hp → Prop} (k : ta σ H fun x H1 => tr σ H1 fun xs H2 => Q (x :: xs) H2) : tCons ta tr σ H Q := k
theorem g_cb {r : List V → Hp → VK → Prop} {t : TA} (k : t σ H fun vs H1 => r vs H1 Q) : tCB r t σ H Q := k
theorem g_call {sp : Sp} {dvs : List V} {t : TA} (k : t σ H fun vs H1 => sp (vs ++ dvs) H1 Q E) : tCall sp dvs E t σ H Q := k
def LstK (Q : VK) : List V → Hp → Prop := fun xs H1 => xs.length ≤ sizeLine ∧ ∀ p, H1 p = none → Q (.ref p) (upd H1 p (.lst xs))
def TupK (Q : VK) : List V → Hp → Prop := fun xs H1 => xs.length ≤ sizeLine ∧ ∀ p, H1 p = none → Q (.ref p) (upd H1 p (.tup xs))
theorem g_lst {t : TA} (k : t σ H (LstK Q)) : tLst t σ H Q := k
theorem g_tup {t : TA} (k : t σ H (TupK Q)) : tTup t σ H Q := k
/-- a display is laid -/
theorem v_lst {xs : List V} (S : M Rs H) (hn : xs.length ≤ 100000) (k : ∀ p H', M (pt p (.lst xs) :: Rs) H' → Q (.ref p) H') : LstK Q xs H :=
  ⟨Nat.le_trans hn (by decide), fun p hp => k p _ (S.new hp)⟩
theorem v_tup {xs : List V} (S : M Rs H) (hn : xs.length ≤ 100000) (k : ∀ p H', M (pt p (.tup xs) :: Rs) H' → Q (.ref p) H') : TupK Q xs H :=
  ⟨Nat.le_trans hn (by decide), fun p hp => k p _ (S.new hp)⟩
theorem g_test {Q : Bool → Hp → Prop} (k : te σ H fun x H' => ∃ b, x = .bl b ∧ Q b H') : tTest te σ H Q := k
theorem g_B {Q : Bool → Hp → Prop} (k : te σ H fun x H' => ∃ b, x = .bl b ∧ Q b H') : tB te σ H Q := k
theorem g_bl {b : Bool} {Q : Bool → Prop} (k : Q b) : ∃ c, V.bl b = .bl c ∧ Q c := ⟨b, rfl, k⟩
theorem g_and {s : TT} {Q : Bool → Hp → Prop} (k : tt σ H fun c H1 => if c = true then s σ H1 Q else Q false H1) : tAnd tt s σ H Q := k
theorem g_or {s : TT} {Q : Bool → Hp → Prop} (k : tt σ H fun c H1 => if c = true then Q true H1 else s σ H1 Q) : tOr tt s σ H Q := k
theorem g_not {Q : Bool → Hp → Prop} (k : tt σ H fun c H1 => Q (!c) H1) : tNot tt σ H Q := k
theorem g_andV (k : ta σ H fun x H1 => ∃ c, x = .bl c ∧ if c = true then tb σ H1 Q else Q (.bl false) H1) : tAndV ta tb σ H Q := k
theorem g_orV (k : ta σ H fun x H1 => ∃ c, x = .bl c ∧ if c = true then Q (.bl true) H1 else tb σ H1 Q) : tOrV ta tb σ H Q := k
theorem g_notV (k : ta σ H fun x H1 => ∃ c, x = .bl c ∧ Q (.bl (!c)) H1) : tNotV ta σ H Q := k
theorem g_ifE (k : tt σ H fun c H1 => if c = true then ta σ H1 Q else tb σ H1 Q) : tIf tt ta tb σ H Q := k
theorem g_chain {r r' : R2} (k : ta σ H fun x H1 => tb σ H1 fun y H2 => r x y H2 fun z H3 => ∃ k, z = .bl k ∧ (if k = true then tc σ H3 fun w' H4 => r' y w' H4 Q else Q (.bl false) H3)) : tChain r r' ta tb tc σ H Q := k
theorem g_aug {i : Nat} {ti : TIp} {v : V} (h : σ[i]? = some (some v)) (k : te σ H fun y H1 => ti v y H1 fun z H2 => D.nx (σ.set i (some z)) H2) : tAug i te ti D σ H := ⟨v, h, k⟩
theorem g_augS {tget : V → V → Hp → VK → Prop} {tip : TIp} {tset : TSet} (k : ta σ H fun o H1 => tb σ H1 fun i H2 => tget o i H2 fun x H3 => te σ H3 fun y H4 => tip x y H4 fun z H5 => tset o i z H5 fun H6 => D.nx σ H6) :
    tAugS ta tb te tget tip tset D σ H := k
theorem g_sub {t3 : TSet} {v : V} {Q : L2.St → Hp → Prop} (k : ta σ H fun o H1 => tb σ H1 fun i H2 => t3 o i v H2 fun H3 => Q σ H3) : gSub ta tb t3 v σ H Q := k
theorem g_sl {r : V → Option Int → Option Int → Hp → VK → Prop} {tl th : TO} (k : te σ H fun x H1 => tl σ H1 fun l H2 => th σ H2 fun u H3 => r x l u H3 Q) : tSl r te tl th σ H Q := k
theorem g_noPart {Q : Option Int → Hp → Prop} (k : Q none H) : tNoPart σ H Q := k
theorem g_part {Q : Option Int → Hp → Prop} (k : te σ H fun x H1 => ∃ i, x = .int i ∧ Q (some i) H1) : tPart te σ H Q := k
theorem g_int {i : Int} {Q : Int → Prop} (k : Q i) : ∃ j, V.int i = .int j ∧ Q j := ⟨i, rfl, k⟩
/-! values -/
theorem v_add {i j : Int} (k : Q (.int (i + j)) H) : uAdd K (.int i) (.int j) H Q := .inl ⟨i, j, rfl, rfl, k⟩
theorem v_sub {i j : Int} (k : Q (.int (i - j)) H) : uSub (.int i) (.int j) H Q := ⟨i, j, rfl, rfl, k⟩
theorem v_mul {i j : Int} (h : CMul i j ∨ CMulW i j) (k : Q (.int (i * j)) H) : uMul (.int i) (.int j) H Q := h.elim (fun h => .inl ⟨i, j, rfl, rfl, h, k⟩) fun h => .inr (.inl ⟨i, j, rfl, rfl, h, k⟩)
theorem v_mod {i j : Int} (h : 0 < j) (k : Q (.int (i % j)) H) : uMod (.int i) (.int j) H Q := ⟨i, j, rfl, rfl, h, k⟩
theorem div_ok {i j : Int} (h : 0 < j ∧ j < 2 ^ 64) : CDivW i j := wide_div (b := 64) h.1 (by omega) (by decide) (by decide)
theorem v_div {i j : Int} (h : 0 < j ∧ j < 2 ^ 64) (k : Q (.int (i / j)) H) : uDiv (.int i) (.int j) H Q := ⟨i, j, rfl, rfl, div_ok h, k⟩
theorem v_iadd {i j : Int} (k : Q (.int (i + j)) H) : iAdd (.int i) (.int j) H Q := .inl ⟨i, j, rfl, rfl, k⟩
theorem v_isub {i j : Int} (k : Q (.int (i - j)) H) : iSub (.int i) (.int j) H Q := ⟨i, j, rfl, rfl, k⟩
theorem v_imul {i j : Int} (h : CMul i j) (k : Q (.int (i * j)) H) : iMul (.int i) (.int j) H Q := ⟨i, j, rfl, rfl, h, k⟩
theorem v_idiv {i j : Int} (h : CDiv i j) (k : Q (.int (i / j)) H) : iDiv (.int i) (.int j) H Q := ⟨i, j, rfl, rfl, h, k⟩
theorem v_lt {i j : Int} (k : Q (.bl (decide (i < j))) H) : uLt (.int i) (.int j) H Q := ⟨i, j, rfl, rfl, k⟩
theorem v_le {i j : Int} (k : Q (.bl (decide (i ≤ j))) H) : uLe (.int i) (.int j) H Q := ⟨i, j, rfl, rfl, k⟩
theorem v_gt {i j : Int} (k : Q (.bl (decide (j < i))) H) : uGt (.int i) (.int j) H Q := ⟨i, j, rfl, rfl, k⟩
theorem v_ge {i j : Int} (k : Q (.bl (decide (j ≤ i))) H) : uGe (.int i) (.int j) H Q := ⟨i, j, rfl, rfl, k⟩
theorem v_eqI {i j : Int} (k : Q (.bl (decide (i = j))) H) : uEq K (.int i) (.int j) H Q := .inl ⟨rfl, by
  have e : decide (V.int i = V.int j) = decide (i = j) := decide_eq_decide.mpr ⟨fun h => V.int.inj h, fun h => by rw [h]⟩
  rw [e]
  exact k⟩
theorem v_neI {i j : Int} (k : Q (.bl (!decide (i = j))) H) : uNe K (.int i) (.int j) H Q := .inl ⟨rfl, by
  have e : decide (V.int i = V.int j) = decide (i = j) := decide_eq_decide.mpr ⟨fun h => V.int.inj h, fun h => by rw [h]⟩
  rw [e]
  exact k⟩
theorem v_eqS {i j : Str} (k : Q (.bl (decide (i = j))) H) : uEq K (.str i) (.str j) H Q := .inl ⟨rfl, by
  have e : decide (V.str i = V.str j) = decide (i = j) := decide_eq_decide.mpr ⟨fun h => V.str.inj h, fun h => by rw [h]⟩
  rw [e]
  exact k⟩
theorem v_eqB {i j : Bool} (k : Q (.bl (decide (i = j))) H) : uEq K (.bl i) (.bl j) H Q := .inl ⟨rfl, by
  have e : decide (V.bl i = V.bl j) = decide (i = j) := decide_eq_decide.mpr ⟨fun h => V.bl.inj h, fun h => by rw [h]⟩
  rw [e]
  exact k⟩
theorem v_neB {i j : Bool} (k : Q (.bl (!decide (i = j))) H) : uNe K (.bl i) (.bl j) H Q := .inl ⟨rfl, by
  have e : decide (V.bl i = V.bl j) = decide (i = j) := decide_eq_decide.mpr ⟨fun h => V.bl.inj h, fun h => by rw [h]⟩
  rw [e]
  exact k⟩
theorem v_eqD {x y : V} {d e : PyData} (h1 : Dp K H x d) (h2 : Dp K H y e) (s1 : SeqAt.shaped d = true) (s2 : SeqAt.shaped e = true) (k : Q (.bl (PyData.eqv d e)) H) : uEq K x y H Q := .inr ⟨d, e, h1, h2, s1, s2, k⟩
theorem v_neD {x y : V} {d e : PyData} (h1 : Dp K H x d) (h2 : Dp K H y e) (s1 : SeqAt.shaped d = true) (s2 : SeqAt.shaped e = true) (k : Q (.bl (!PyData.eqv d e)) H) : uNe K x y H Q := .inr ⟨d, e, h1, h2, s1, s2, k⟩
theorem v_ixL {p : Addr} {xs : List V} {i : Int} {v : V} (h : SqL K H p xs) (ha : atI xs i = some v) (k : Q v H) : uIx K (.ref p) (.int i) H Q := .inl ⟨p, xs, i, v, rfl, rfl, h, ha, k⟩
theorem v_ixT {p : Addr} {xs : List V} {i : Int} {v : V} (h : SqT K H p xs) (ha : atI xs i = some v) (k : Q v H) : uIx K (.ref p) (.int i) H Q := .inr (.inl ⟨p, xs, i, v, rfl, rfl, h, ha, k⟩)
theorem v_get {p : Addr} {xs : List V} {n : Int} {v : V} (h : SqL K H p xs) (h0 : 0 ≤ n) (ha : xs[n.toNat]? = some v) (k : Q v H) : gIx K (.ref p) (.int n) H Q := .inl ⟨p, xs, n, v, rfl, rfl, h, h0, ha, k⟩
theorem ixN_int {n : Nat} {i : Int} (h0 : 0 ≤ i) (h1 : i < n) : ixN n i = some i.toNat := by
  unfold ixN
  rw [if_pos h0, if_pos h1]
theorem atI_int {α : Type} {xs : List α} {i : Int} {v : α} (h0 : 0 ≤ i) (h : xs[i.toNat]? = some v) : atI xs i = some v := by
  have hl := (List.getElem?_eq_some_iff.mp h).1
  unfold atI
  rw [ixN_int h0 (by omega)]
  exact h
theorem atI_ints {ns : List Int} {i : Int} (h0 : 0 ≤ i) (h1 : i < ns.length) : atI (ns.map V.int) i = some (.int (ns.getD i.toNat 0)) := by
  refine atI_int h0 ?_
  have hl : i.toNat < ns.length := by omega
  rw [List.getElem?_map, List.getElem?_eq_getElem hl, List.getD_eq_getElem?_getD, List.getElem?_eq_getElem hl]
  rfl
theorem ixN_nat {n j : Nat} (hj : j < n) : ixN n (j : Int) = some j := by
  unfold ixN
  rw [if_pos (Int.natCast_nonneg j), if_pos (by omega)]
  simp
/-- xs[j] = v, the list owned -/
theorem v_set {p : Addr} {xs : List V} {n : Int} {j : Nat} {v : V} {Q : Hp → Prop} (S : M Rs H) (i : Nat) (e : Rs[i]? = some (pt p (.lst xs))) (hj : ixN xs.length n = some j) (k : ∀ H', M (Rs.set i (pt p (.lst (xs.set j v)))) H' → Q H') :
    uSet (.ref p) (.int n) v H Q := .inl ⟨p, xs, n, j, rfl, rfl, S.got i e, hj, k _ (S.putAt i e)⟩
theorem v_cat {a b : Addr} {xs ys : List V} (S : M Rs H) (h1 : H a = some (.lst xs)) (h2 : H b = some (.lst ys)) (hz : xs.length + ys.length ≤ 100000) (k : ∀ p H', M (pt p (.lst (xs ++ ys)) :: Rs) H' → Q (.ref p) H') : uAdd K (.ref a) (.ref b) H Q :=
  .inr (.inr (.inl ⟨a, b, xs, ys, rfl, rfl, SqL.of h1, SqL.of h2, Nat.le_trans hz (by decide), fun p hp => k p _ (S.new hp)⟩))
theorem v_catS {a b : Addr} {xs ys : List V} (S : M Rs H) (h1 : SqL K H a xs) (h2 : SqL K H b ys) (hz : xs.length + ys.length ≤ 100000) (k : ∀ p H', M (pt p (.lst (xs ++ ys)) :: Rs) H' → Q (.ref p) H') : uAdd K (.ref a) (.ref b) H Q :=
  .inr (.inr (.inl ⟨a, b, xs, ys, rfl, rfl, h1, h2, Nat.le_trans hz (by decide), fun p hp => k p _ (S.new hp)⟩))
theorem v_slL {a : Addr} {xs : List V} {lo hi : Option Int} (S : M Rs H) (h : SqL K H a xs) (k : ∀ p H', M (pt p (.lst (cutV xs lo hi)) :: Rs) H' → Q (.ref p) H') : uSl K (.ref a) lo hi H Q :=
  .inl ⟨a, xs, rfl, h, fun p hp => k p _ (S.new hp)⟩
def RevK (K : PySem.W.Frag) (Q : VK) : VK := fun x H1 => ∃ a xs, x = .ref a ∧ SqL K H1 a xs ∧ ∀ p, H1 p = none → Q (.ref p) (upd H1 p (.lst xs.reverse))
theorem g_rev (k : te σ H (RevK K Q)) : tRevL K te σ H Q := k
theorem v_rev {a : Addr} {xs : List V} (S : M Rs H) (h : SqL K H a xs) (k : ∀ p H', M (pt p (.lst xs.reverse) :: Rs) H' → Q (.ref p) H') : RevK K Q (.ref a) H :=
  ⟨a, xs, rfl, h, fun p hp => k p _ (S.new hp)⟩
theorem v_lenL {a : Addr} {xs : List V} (h : SqL K H a xs) (k : Q (.int (xs.length : Nat)) H) : uLen K [.ref a] H Q := .inl ⟨_, _, rfl, .inl ⟨xs, h, rfl⟩, k⟩
/-- xs.append(v) -/
theorem g_bm {T : String} {r : V → List V → Hp → VK → Prop} {t : TA} (k : te σ H fun x H1 => tyV K T x H1 ∧ t σ H1 fun xs H2 => r x xs H2 Q) : tBM K T r te t σ H Q := k
theorem g_bm0 {T : String} {r : V → List V → Hp → VK → Prop} (k : te σ H fun x H1 => tyV K T x H1 ∧ r x [] H1 Q) : tBM0 K T r te σ H Q := k
theorem v_tyL {a : Addr} {xs : List V} {φ : Prop} (h : SqL K H a xs) (k : φ) : tyV K "list" (.ref a) H ∧ φ := ⟨.inl ⟨rfl, xs, h⟩, k⟩
theorem v_app {p : Addr} {xs : List V} {v : V} (S : M Rs H) (i : Nat) (e : Rs[i]? = some (pt p (.lst xs))) (hz : xs.length < 100000) (k : ∀ H', M (Rs.set i (pt p (.lst (xs ++ [v])))) H' → Q .non H') : rAppend (.ref p) [v] H Q :=
  ⟨p, xs, v, rfl, rfl, S.got i e, Nat.lt_of_lt_of_le hz (by decide), k _ (S.putAt i e)⟩
theorem v_if {b : Bool} {A B : Prop} (h1 : b = true → A) (h2 : b = false → B) : if b = true then A else B := by
  cases b with
  | true => exact h1 rfl
  | false => exact h2 rfl
theorem v_ifD {c : Prop} [Decidable c] {A B : Prop} (h1 : c → A) (h2 : ¬ c → B) : if decide c = true then A else B := by
  by_cases h : c
  · rw [decide_eq_true h]
    exact h1 h
  · rw [decide_eq_false h]
    exact h2 h
theorem v_ifN {c : Prop} [Decidable c] {A B : Prop} (h1 : ¬ c → A) (h2 : c → B) : if (!decide c) = true then A else B := by
  by_cases h : c
  · rw [decide_eq_true h]
    exact h2 h
  · rw [decide_eq_false h]
    exact h1 h
theorem v_ifT {A B : Prop} (k : A) : if true = true then A else B := k
theorem v_ifF {A B : Prop} (k : B) : if false = true then A else B := k
end
end RC
namespace RC
open PySem PySem.Spec PyProof.Rows L2
/-- the function object at an address -/
def fdOf (K : PySem.W.Frag) (f : Addr) : FuncData := match K.lookup f with
  | some ⟨_, _, .func fd, _⟩ => fd
  | _ => PySem.W.fnOf "" "" ⟨[], [], none, [], [], none, []⟩ [] ⟨.function, [], false, false, []⟩ .none .none .none .none none .none .none
theorem fd_of {K : PySem.W.Frag} {x q : Str} {ar : Arguments} {bd : List Stmt} {sc : Scope} {dvs : List V} {kws : List (Str × V)} {f : Addr} (h : ∃ fd, FunD K x q ar bd sc dvs kws f fd) : FunD K x q ar bd sc dvs kws f (fdOf K f) := by
  obtain ⟨fd, F⟩ := h
  have e : fdOf K f = fd := by
    obtain ⟨⟨oc, od, dV, kV, doc, pm, an, cdv, ct, osl, rfl, lk, _, _, _⟩, _⟩ := F
    unfold fdOf
    rw [lk]
  rw [e]
  exact F
/-- a list that may be read for ever -/
def rdL (K : PySem.W.Frag) (a : Addr) (xs : List V) : Res := ⟨fun F l => l = [] ∧ SqL K F a xs, fun _ _ _ e h => ⟨h.1, e.sqL h.2⟩⟩
theorem M.start {K : PySem.W.Frag} {H : Hp} {a : Addr} {xs : List V} (h : SqL K H a xs) : M [rdL K a xs] H :=
  ⟨H, [], ⟨[], [], rfl, ⟨rfl, h⟩, rfl⟩, ⟨Ext.refl H, (fun _ h => nomatch h), List.nodup_nil⟩⟩
theorem M.gotR {K : PySem.W.Frag} {Rs : List Res} {H : Hp} {a : Addr} {xs : List V} (h : M Rs H) (i : Nat) (e : Rs[i]? = some (rdL K a xs)) : SqL K H a xs := by
  obtain ⟨F, L, ⟨l1, l2, rfl, ⟨_, q⟩, b⟩, m⟩ := h.at i e
  exact m.ex.sqL q
/-- what the resources bring about -/
def Ent (Rs : List Res) (φ : Hp → Prop) : Prop := ∀ H, M Rs H → φ H
def rAbs : List V → Hp → VK → Prop := fun xs H Q => ∃ i, xs = [.int i] ∧ Q (.int (if i < 0 then -i else i)) H
theorem cr_abs {X : Cx} : CallR X (.builtin "abs") rAbs := call_abs
def rListOf (K : PySem.W.Frag) : List V → Hp → VK → Prop := fun xs H Q => ∃ p ys, xs = [.ref p] ∧ (SqL K H p ys ∨ SqT K H p ys) ∧ ∀ l, H l = none → Q (.ref l) (upd H l (.lst ys))
theorem cr_list {X : Cx} : CallR X (.type "list") (rListOf X.K) := call_list_of
theorem v_abs {i : Int} {H : Hp} {Q : VK} (k : Q (.int (if i < 0 then -i else i)) H) : rAbs [.int i] H Q := ⟨i, rfl, k⟩
theorem v_list {K : PySem.W.Frag} {Rs : List Res} {H : Hp} {Q : VK} {a : Addr} {xs : List V} (S : M Rs H) (h : SqL K H a xs ∨ SqT K H a xs) (k : ∀ p H', M (pt p (.lst xs) :: Rs) H' → Q (.ref p) H') : rListOf K [.ref a] H Q :=
  ⟨a, xs, rfl, h, fun p hp => k p _ (S.new hp)⟩
def rIsN : R2 := fun x y H Q => y = .non ∧ Q (.bl (decide (x = .non))) H
def rNotN : R2 := fun x y H Q => y = .non ∧ Q (.bl (!decide (x = .non))) H
end RC
namespace RC
open PySem PySem.Spec PyProof.Rows L2
/-! ### loops -/
def ForW (J : It) (g : TG) (tb : TS) (D : Ends) (σ : L2.St) (H1 : Hp) : Prop := ∃ W : Nat → Nat → L2.St → Hp → Prop, (∃ m, W 0 m σ H1) ∧ ∀ i m σ H, W i m σ H →
  (J.stop i H ∧ D.nx σ H) ∨ (J.go i H ∧ ∃ N : L2.St → Hp → Prop, (∀ σ' H', N σ' H' → ∃ m', m' < m ∧ W (i + 1) m' σ' H') ∧ ∀ x H', J.yld i H x H' → g x σ H' fun σ2 H2 => tb { D with nx := N, ct := N, bk := D.nx } σ2 H2)
def LcW (J : It) (g : TG) (tt : TT) (te : TE) (vs : List Nat) (σ : L2.St) (Q : VK) (H1 : Hp) : Prop := ∀ D, H1 D = none → ∃ W : Nat → Nat → Hp → Prop, (∃ m, W 0 m (upd H1 D (.lst []))) ∧ ∀ i m H, W i m H →
  (J.stop i H ∧ Q (.ref D) H) ∨ (J.go i H ∧ ∃ Nx : Hp → Prop, (∀ H', Nx H' → ∃ m', m' < m ∧ W (i + 1) m' H') ∧ ∀ x H', J.yld i H x H' → g x (wipe σ vs) H' fun σ2 H2 => wipe σ2 vs = wipe σ vs ∧ tt σ2 H2 fun b H3 =>
    if b = true then te σ2 H3 fun y H4 => ∃ acc, H4 D = some (.lst acc) ∧ acc.length < sizeLine ∧ Nx (upd H4 D (.lst (acc ++ [y]))) else Nx H3)
section
variable {K : PySem.W.Frag} {σ : L2.St} {H : Hp} {Q : VK} {D : Ends} {tb : TS} {te tl : TE} {ta : TA} {tt : TT} {g : TG} {vs : List Nat} {wi : TI} {J : It} {R : It → Hp → Prop} {a : Addr} {xs : List V} {Rs : List Res}
theorem g_for (k : wi σ H fun J H1 => ForW J g tb D σ H1) : tFor wi g tb D σ H := k
theorem g_lc (k : wi σ H fun J H1 => LcW J g tt te vs σ Q H1) : tLc wi g tt te vs σ H Q := k
def ItL (K : PySem.W.Frag) (R : It → Hp → Prop) : VK := fun x H1 => ∃ a, x = .ref a ∧ (∃ xs, SqL K H1 a xs) ∧ R (Itl K a) H1
def ItR (R : It → Hp → Prop) : List V → Hp → Prop := fun vs H1 => ∃ j : Int, vs = [.int j] ∧ -(2 ^ 62) ≤ j ∧ j < 2 ^ 62 ∧ R (Itr 0 j.toNat) H1
def ItV (K : PySem.W.Frag) (R : It → Hp → Prop) : List V → Hp → Prop := fun vs H1 => ∃ (a : Addr) (xs : List V), vs = [.ref a] ∧ SqL K H1 a xs ∧ R (Itv K a xs.length) H1
theorem g_iList (k : tl σ H (ItL K R)) : iList K tl σ H R := k
theorem v_itL (h : SqL K H a xs) (k : R (Itl K a) H) : ItL K R (.ref a) H := ⟨a, rfl, ⟨xs, h⟩, k⟩
theorem g_iRng1 (k : ta σ H (ItR R)) : iRng1 ta σ H R := k
theorem v_itR {j : Int} (h : -(2 ^ 62) ≤ j ∧ j < 2 ^ 62) (k : R (Itr 0 j.toNat) H) : ItR R [V.int j] H := ⟨j, rfl, h.1, h.2, k⟩
theorem g_iRev (k : ta σ H (ItV K R)) : iRev K ta σ H R := k
theorem v_itV (h : SqL K H a xs) (k : R (Itv K a xs.length) H) : ItV K R [V.ref a] H := ⟨a, xs, rfl, h, k⟩
/-- a for, by a word of the turn, the slots and the heap -/
theorem for_W {n : Nat} {G : Hp → Prop} {Y : Nat → Hp → V → Hp → Prop} (w : Walk J n G Y) (Pv : Nat → L2.St → Hp → Prop) (h0 : Pv 0 σ H) (hG : ∀ i σ H, i ≤ n → Pv i σ H → G H)
    (hs : ∀ i x σ H H', i < n → Pv i σ H → Y i H x H' → g x σ H' fun σ2 H2 => tb { D with nx := Pv (i + 1), ct := Pv (i + 1), bk := D.nx } σ2 H2) (hd : ∀ σ H, Pv n σ H → D.nx σ H) : ForW J g tb D σ H := for_it w Pv h0 hG hs hd
/-- a comprehension: P of the turn and the items so far; the resources Rs stand at each turn -/
def PvM (P : Nat → List V → Prop) (E : Addr) (Rs : List Res) (i : Nat) (H : Hp) : Prop := ∃ acc, P i acc ∧ M (pt E (.lst acc) :: Rs) H
def LcK (N : Hp → Prop) (E : Addr) : VK := fun y H4 => ∃ acc, H4 E = some (.lst acc) ∧ acc.length < sizeLine ∧ N (upd H4 E (.lst (acc ++ [y])))
theorem lc_W {n : Nat} {G : Hp → Prop} {Y : Nat → Hp → V → Hp → Prop} (w : Walk J n G Y) (S : M Rs H) (P : Nat → List V → Prop) (h0 : P 0 []) (hG : ∀ H, M Rs H → G H)
    (hs : ∀ i x acc E H H', i < n → P i acc → M (pt E (.lst acc) :: Rs) H → Y i H x H' → g x (wipe σ vs) H' fun σ2 H2 => wipe σ2 vs = wipe σ vs ∧ tt σ2 H2 fun b H3 => if b = true then te σ2 H3 (LcK (PvM P E Rs (i + 1)) E) else PvM P E Rs (i + 1) H3)
    (hd : ∀ E acc H, P n acc → M (pt E (.lst acc) :: Rs) H → Q (.ref E) H) : LcW J g tt te vs σ Q H := by
  intro E hE
  refine lc_it w (PvM P E Rs) ⟨[], h0, S.new hE⟩ (fun i H _ ⟨acc, _, S⟩ => hG H S.tl) (fun i x H H' hi ⟨acc, hp, S⟩ y => hs i x acc E H H' hi hp S y) fun H ⟨acc, hp, S⟩ => hd E acc H hp S
theorem lc_next {N : Hp → Prop} {E : Addr} {y : V} {acc : List V} (S : M Rs H) (i : Nat) (e : Rs[i]? = some (pt E (.lst acc))) (hz : acc.length < 100000) (k : ∀ H', M (Rs.set i (pt E (.lst (acc ++ [y])))) H' → N H') : LcK N E y H :=
  ⟨acc, S.got i e, Nat.lt_of_lt_of_le hz (by decide), k _ (S.putAt i e)⟩
theorem g_yes {Q : Bool → Hp → Prop} (k : Q true H) : tYes σ H Q := k
theorem g_name {i : Nat} {v : V} {Q : L2.St → Hp → Prop} (k : Q (σ.set i (some v)) H) : gName i v σ H Q := k
end
theorem ints_get {ns : List Int} {i : Nat} {x : V} (h : (ns.map V.int)[i]? = some x) : ∃ n, ns[i]? = some n ∧ x = .int n := by
  rw [List.getElem?_map] at h
  cases e : ns[i]? with
  | none =>
    rw [e] at h
    cases h
  | some n =>
    rw [e] at h
    exact ⟨n, rfl, (Option.some.inj h).symm⟩
theorem take_more {α : Type} {l : List α} {i : Nat} {x : α} (h : l[i]? = some x) : l.take (i + 1) = l.take i ++ [x] := by
  rw [List.take_add_one, h]
  rfl
end RC
namespace RC
open PySem PySem.Spec PyProof.Rows L2
theorem cut_to (xs : List V) (k : Nat) : cutV xs none (some (k : Int)) = xs.take k := by
  unfold cutV
  rw [HT.sIx_none, HT.sIx_nat, List.drop_zero, Nat.sub_zero]
  rcases Nat.le_total k xs.length with h | h
  · rw [Nat.min_eq_left h]
  · rw [Nat.min_eq_right h, List.take_of_length_le (Nat.le_refl _), List.take_of_length_le h]
theorem cut_from (xs : List V) (k : Nat) : cutV xs (some (k : Int)) none = xs.drop k := by
  unfold cutV
  rw [HT.sIx_none, HT.sIx_nat]
  rcases Nat.le_total k xs.length with h | h
  · rw [Nat.min_eq_left h, List.take_of_length_le]
    rw [List.length_drop]
    exact Nat.le_refl _
  · rw [Nat.min_eq_right h, List.drop_of_length_le h, List.drop_of_length_le (Nat.le_refl _), List.take_nil]
theorem cut_mid (xs : List V) (a b : Nat) : cutV xs (some (a : Int)) (some (b : Int)) = (xs.drop a).take (b - a) := by
  unfold cutV
  rw [HT.sIx_nat, HT.sIx_nat]
  rcases Nat.le_total a xs.length with h | h
  · rw [Nat.min_eq_left h]
    rcases Nat.le_total b xs.length with g | g
    · rw [Nat.min_eq_left g]
    · rw [Nat.min_eq_right g, List.take_of_length_le, List.take_of_length_le]
      · rw [List.length_drop]
        omega
      · rw [List.length_drop]
        exact Nat.le_refl _
  · rw [Nat.min_eq_right h, List.drop_of_length_le h, List.drop_of_length_le (Nat.le_refl _), List.take_nil, List.take_nil]
theorem g_wipe {a b : L2.St} {φ : Prop} (h : a = b) (k : φ) : a = b ∧ φ := ⟨h, k⟩
end RC
namespace RC
open PySem PySem.Spec PyProof.Rows L2
/-- all are ints of which P holds -/
def AllI (P : Int → Prop) : List V → Prop
  | [] => True
  | .int n :: r => P n ∧ AllI P r
  | _ => False
theorem AllI.get {P : Int → Prop} : ∀ {xs : List V}, AllI P xs → ∀ {j : Nat}, j < xs.length → ∃ n, P n ∧ xs[j]? = some (.int n)
  | [], _, j, h => absurd h (Nat.not_lt_zero _)
  | .int n :: r, h, 0, _ => ⟨n, h.1, rfl⟩
  | .int n :: r, h, j + 1, hj => by
    obtain ⟨m, a, b⟩ := AllI.get h.2 (Nat.lt_of_succ_lt_succ hj)
    exact ⟨m, a, by simpa using b⟩
  | .non :: _, h, _, _ => h.elim
  | .bl _ :: _, h, _, _ => h.elim
  | .str _ :: _, h, _, _ => h.elim
  | .byt _ :: _, h, _, _ => h.elim
  | .flt _ :: _, h, _, _ => h.elim
  | .ref _ :: _, h, _, _ => h.elim
  | .ty _ :: _, h, _, _ => h.elim
/-- one of a written menu of ints -/
theorem menuI {xs : List V} {v : Int} (P : Int → Prop) (h : AllI P xs) (h0 : 0 ≤ v) (h1 : v < xs.length) : ∃ n, P n ∧ atI xs v = some (.int n) := by
  obtain ⟨n, a, b⟩ := h.get (j := v.toNat) (by omega)
  exact ⟨n, a, atI_int h0 b⟩
/-- one of a written menu -/
theorem menu {xs : List V} {v : Int} (h0 : 0 ≤ v) (h1 : v < xs.length) : ∃ x, x ∈ xs ∧ atI xs v = some x := by
  have hl : v.toNat < xs.length := by omega
  exact ⟨xs[v.toNat], List.getElem_mem hl, atI_int h0 (List.getElem?_eq_getElem hl)⟩
theorem set_len {α : Type} {l : List α} {i : Nat} {x : α} : (l.set i x).length = l.length := List.length_set
theorem map_set {α β : Type} (f : α → β) (l : List α) (i : Nat) (x : α) : (l.map f).set i (f x) = (l.set i x).map f := (List.map_set).symm
end RC
namespace RC
theorem v_ifNT {A B : Prop} (k : B) : if (!true) = true then A else B := k
theorem v_ifNF {A B : Prop} (k : A) : if (!false) = true then A else B := k
end RC
namespace RC
open PySem PySem.Spec PyProof.Rows L2
/-- some of the resources, in another order -/
def Sub (Rs' Rs : List Res) : Prop := ∀ F L, Sat F Rs L → ∃ L1 L2, L.Perm (L1 ++ L2) ∧ Sat F Rs' L1
theorem Sub.refl (Rs : List Res) : Sub Rs Rs := fun _ L h => ⟨L, [], by rw [List.append_nil], h⟩
theorem Sub.nil (Rs : List Res) : Sub [] Rs := fun _ L _ => ⟨[], L, .refl _, rfl⟩
theorem Sub.cons {Rs Rs' : List Res} {R : Res} (i : Nat) (e : Rs[i]? = some R) (h : Sub Rs' (Rs.eraseIdx i)) : Sub (R :: Rs') Rs := by
  intro F L s
  obtain ⟨L0, p0, l1, l2, rfl, a, b⟩ := s.perm (perm_at i e)
  obtain ⟨L1, L2, p1, c⟩ := h F l2 b
  refine ⟨l1 ++ L1, L2, p0.trans ?_, l1, L1, rfl, a, c⟩
  rw [List.append_assoc]
  exact p1.append_left l1
theorem Sub.tl {Rs Rs' : List Res} {R : Res} (h : Sub Rs' Rs) : Sub Rs' (R :: Rs) := by
  rintro F L ⟨l1, l2, rfl, a, b⟩
  obtain ⟨L1, L2, p1, c⟩ := h F l2 b
  refine ⟨L1, l1 ++ L2, (p1.append_left l1).trans ?_, c⟩
  rw [← List.append_assoc, ← List.append_assoc]
  exact List.Perm.append_right _ List.perm_append_comm
theorem M.sub {Rs Rs' : List Res} {H : Hp} (q : Sub Rs' Rs) (h : M Rs H) : M Rs' H := by
  obtain ⟨F, L, a, m⟩ := h
  obtain ⟨L1, L2, p, b⟩ := q F L a
  have m2 := m.perm p
  refine ⟨F, L1, b, m2.ex, fun c hc => m2.own c (List.mem_append_left _ hc), ?_⟩
  have nd := m2.nd
  rw [List.map_append] at nd
  exact (List.nodup_append.mp nd).1
end RC
namespace RC
open PySem PySem.Spec PyProof.Rows L2
section
variable {X : Cx}
theorem units65 {k : Nat} {A : Around} (hr : Room k A) : A.units + 65 < cLine := by
  have := hr.un
  omega
def rDIn : R2 := fun x y H Q => ∃ a o, y = .ref a ∧ DGet H a x o ∧ Q (.bl o.isSome) H
def rDNotIn : R2 := fun x y H Q => ∃ a o, y = .ref a ∧ DGet H a x o ∧ Q (.bl (!o.isSome)) H
theorem op_din (hu : X.A.units + 1 < cLine) : OpR X (compareOp .In) rDIn := by
  intro pins s σ H x y v u Q I rx ry h
  obtain ⟨a, o, rfl, g, q⟩ := h
  cases (show u = Value.ref a from ry)
  exact d_in hu I g rx fun s' I' => ⟨.bl o.isSome, H, I', rfl, q⟩
theorem op_dnotin (hu : X.A.units + 1 < cLine) : OpR X (compareOp .NotIn) rDNotIn := by
  intro pins s σ H x y v u Q I rx ry h
  obtain ⟨a, o, rfl, g, q⟩ := h
  cases (show u = Value.ref a from ry)
  exact d_notIn hu I g rx fun s' I' => ⟨.bl (!o.isSome), H, I', rfl, q⟩
def rInS : R2 := fun x y H Q => ∃ i j, x = .str i ∧ y = .str j ∧ Q (.bl (!(Builtin.Str.occurrences j i 0 j.length 1).isEmpty)) H
def rNotInS : R2 := fun x y H Q => ∃ i j, x = .str i ∧ y = .str j ∧ Q (.bl (!(!(Builtin.Str.occurrences j i 0 j.length 1).isEmpty))) H
def uIn (K : PySem.W.Frag) : R2 := fun x y H Q => rIn K false x y H Q ∨ rInD K x y H Q ∨ rDIn x y H Q ∨ rInS x y H Q
def uNotIn (K : PySem.W.Frag) : R2 := fun x y H Q => rIn K true x y H Q ∨ rNotInD K x y H Q ∨ rDNotIn x y H Q ∨ rNotInS x y H Q
theorem uo_in {k : Nat} (hr : Room k X.A) : OpR X (compareOp .In) (uIn X.K) := op_in_seq.or ((op_inD (units65 hr)).or ((op_din (hu_of hr)).or op_in_str))
theorem uo_notin {k : Nat} (hr : Room k X.A) : OpR X (compareOp .NotIn) (uNotIn X.K) := op_notIn_seq.or ((op_notInD (units65 hr)).or ((op_dnotin (hu_of hr)).or op_notin_str))
theorem op_isN' : OpR X (compareOp .Is) rIsN := op_isN
theorem op_notN' : OpR X (compareOp .IsNot) rNotN := op_notN
end
section
variable {K : PySem.W.Frag} {σ : L2.St} {H : Hp} {Q : VK} {D : Ends} {Rs : List Res} {E : XK}
theorem v_neg {i : Int} (k : Q (.int (-i)) H) : rU (fun i => .int (-i)) (.int i) H Q := ⟨i, rfl, k⟩
theorem v_isN {x : V} (k : Q (.bl (decide (x = .non))) H) : rIsN x .non H Q := ⟨rfl, k⟩
theorem v_notN {x : V} (k : Q (.bl (!decide (x = .non))) H) : rNotN x .non H Q := ⟨rfl, k⟩
theorem g_par {i j : Nat} {ta : TA} (k : ta σ H fun vs H1 => ∃ v w, vs = [v, w] ∧ D.nx ((σ.set i (some v)).set j (some w)) H1) : tPar i j ta D σ H := k
theorem v_two {x y : V} {P : V → V → Prop} (k : P x y) : ∃ v w, [x, y] = [v, w] ∧ P v w := ⟨x, y, rfl, k⟩
theorem g_callN {n m : Nat} {sp : Sp} {gV : List V → List V → List V} {t tk : TA} (k : t σ H fun vs H1 => tk σ H1 fun zs H2 => vs.length = n ∧ zs.length = m ∧ sp (gV vs zs) H2 Q E) : tCallN n m sp gV E t tk σ H Q := k
theorem g_callP {n m l : Nat} {π : {α : Type} → List α → List α} {sp : Sp} {gV : List V → List V → List V} {t tk : TA} (k : t σ H fun vs H1 => tk σ H1 fun zs H2 => vs.length = n ∧ zs.length = m ∧ (gV vs zs).length = l ∧ sp (π (gV vs zs)) H2 Q E) : tCallP n m l π sp gV E t tk σ H Q := k
theorem v_lens {a b : List V} {n m : Nat} {P : Prop} (h1 : a.length = n) (h2 : b.length = m) (k : P) : a.length = n ∧ b.length = m ∧ P := ⟨h1, h2, k⟩
/-- a, b = t -/
theorem g_gtup {n : Nat} {t : TGs} {a : Addr} {xs : List V} {Q : L2.St → Hp → Prop} (h : SqT K H a xs) (hn : xs.length = n) (k : t xs σ H Q) : gTup K n t (.ref a) σ H Q := ⟨a, xs, rfl, h, hn, k⟩
theorem g_gnil {Q : L2.St → Hp → Prop} (k : Q σ H) : gNil [] σ H Q := ⟨rfl, k⟩
theorem g_gcons {t : TG} {u : TGs} {v : V} {r : List V} {Q : L2.St → Hp → Prop} (k : t v σ H fun σ' H' => u r σ' H' Q) : gCons t u (v :: r) σ H Q := ⟨v, r, rfl, k⟩
end
end RC
namespace RC
open PySem PySem.Spec PyProof.Rows L2
/-- a comprehension, by a word of the turn and the heap -/
theorem lc_X {H : Hp} {σ : L2.St} {Q : VK} {te : TE} {tt : TT} {g : TG} {vs : List Nat} {J : It} {n : Nat} {G : Hp → Prop} {Y : Nat → Hp → V → Hp → Prop} (w : Walk J n G Y) (Pv : Addr → Nat → Hp → Prop) (h0 : ∀ E, H E = none → Pv E 0 (upd H E (.lst [])))
    (hG : ∀ E i H, i ≤ n → Pv E i H → G H)
    (hs : ∀ E i x H H', i < n → Pv E i H → Y i H x H' → g x (wipe σ vs) H' fun σ2 H2 => wipe σ2 vs = wipe σ vs ∧ tt σ2 H2 fun b H3 => if b = true then te σ2 H3 (LcK (Pv E (i + 1)) E) else Pv E (i + 1) H3)
    (hd : ∀ E H, Pv E n H → Q (.ref E) H) : LcW J g tt te vs σ Q H := by
  intro E hE
  exact lc_it w (Pv E) (h0 E hE) (hG E) (hs E) (hd E)
end RC
namespace RC
open PySem PySem.Spec PyProof.Rows L2
section
variable {K : PySem.W.Frag} {σ : L2.St} {H : Hp} {Q : VK} {D : Ends} {Rs : List Res}
theorem v_pow {i j : Int} (h : 0 ≤ j ∧ j ≤ 1000000 ∧ i.natAbs < 2 ^ 64) (k : Q (.int (i ^ j.toNat)) H) : uPow (.int i) (.int j) H Q := ⟨i, j, rfl, rfl, h, k⟩
theorem v_rep {p : Addr} {xs : List V} {n : Int} (S : M Rs H) (h : H p = some (.lst xs)) (h1 : 0 ≤ n ∧ n < 1000) (h2 : xs.length * n.toNat ≤ 100000) (k : ∀ l H', M (pt l (.lst (List.replicate n.toNat xs).flatten) :: Rs) H' → Q (.ref l) H') : uMul (.ref p) (.int n) H Q :=
  .inr (.inr (.inl ⟨p, n, xs, rfl, rfl, h, by omega, by omega, Nat.le_trans h2 (by decide), fun l hl => k l _ (S.new hl)⟩))
/-- a while, by a word and a measure of the slots and the heap; the test is read for each turn -/
def WhW (c : TT) (tb : TS) (D : Ends) (σ : L2.St) (H : Hp) : Prop := ∃ W : Nat → L2.St → Hp → Prop, (∃ m, W m σ H) ∧ ∀ m σ H, W m σ H →
  c σ H fun b H1 => if b = true then ∃ N : L2.St → Hp → Prop, (∀ σ' H', N σ' H' → ∃ m', m' < m ∧ W m' σ' H') ∧ tb { D with nx := N, ct := N, bk := D.nx } σ H1 else D.nx σ H1
theorem g_while {c : TT} {tb : TS} (k : WhW c tb D σ H) : tWhile c tb D σ H := k
/-- N of a turn: W at some lesser measure -/
def WhN (W : Nat → L2.St → Hp → Prop) (m : Nat) : L2.St → Hp → Prop := fun σ H => ∃ m', m' < m ∧ W m' σ H
theorem wh_I {c : TT} {tb : TS} (W : Nat → L2.St → Hp → Prop) (m : Nat) (h0 : W m σ H)
    (hs : ∀ m σ H, W m σ H → c σ H fun b H1 => if b = true then ∃ N : L2.St → Hp → Prop, (∀ σ' H', N σ' H' → ∃ m', m' < m ∧ W m' σ' H') ∧ tb { D with nx := N, ct := N, bk := D.nx } σ H1 else D.nx σ H1) : WhW c tb D σ H := ⟨W, ⟨m, h0⟩, hs⟩
theorem wh_N {tb : TS} {m : Nat} {W : Nat → L2.St → Hp → Prop} {H1 : Hp} (k : tb { D with nx := WhN W m, ct := WhN W m, bk := D.nx } σ H1) : ∃ N : L2.St → Hp → Prop, (∀ σ' H', N σ' H' → ∃ m', m' < m ∧ W m' σ' H') ∧ tb { D with nx := N, ct := N, bk := D.nx } σ H1 := ⟨WhN W m, fun _ _ h => h, k⟩
end
end RC

namespace RC
open PySem PySem.Spec PyProof.Rows L2
/-! ### calls whose exceptions are wished for at the caller's slots -/
theorem pas0 {X : Cx} {σ : L2.St} {E : XK} : PassesAt CX0 X σ E := fun _ _ _ _ _ _ z => z.elim
section
variable {X : Cx} {g : Bool} {CX : CXT} {k n : Nat} {f C : Addr} {fd : FuncData} {ps ps' ks : List Str} {sp : Sp} {ds : List Value} {dvs : List V} {W : WX} {x m : Str} {p pos apos : Pos} {e o : Expr} {es : List Expr} {ta : TE} {t : TA}
theorem ended {pins : List (Addr × Obj)} {σ : L2.St} {H : Hp} {s : Shared} {Q : VK} {E : XK} {c : Code} (I : Inv X pins σ H s) (hx : PassesAt CX X σ E) (h : codeAny (model X.prog X.w) X.A c (CR CX X.stack X.prog X.w H s Q E) s) :
    codeAny (model X.prog X.w) X.A c (fun r s' => match r with | .ok (.ret u) => EP X pins σ Q u s' | .ok _ => False | .error u => X.xe u s') s := by
  refine codeAny_mono h fun res s' hq => ?_
  match res, hq with
  | .error u, hq => exact hx pins H s u s' I hq
  | .ok (.ret u), hq => exact I.after hq
  | .ok .next, hq => cases hq
  | .ok .brk, hq => cases hq
  | .ok .cont, hq => cases hq
theorem runW {pins : List (Addr × Obj)} {σ : L2.St} {H : Hp} {s : Shared} {Q : VK} {E : XK} {us : List Value} {vs : List V} (F : FnX g X.prog X.w X.K X.mg X.base CX k f fd ps sp) (hg : g = true → X.A.guards = some []) (hr : Room k X.A)
    (hb : Binds X.K fd ps ds) (hd : Vals dvs ds) (hx : PassesAt CX X σ E) (I : Inv X pins σ H s) (r : Vals vs us) (h : sp (vs ++ dvs) H Q E) :
    wpAny (model X.prog X.w) X.A (call (.ref f) us) (EP X pins σ Q) X.xe s := by
  have rr : Vals (vs ++ dvs) (us ++ ds) := r.append hd
  have ll : (us ++ ds).length = ps.length := rr.length.symm.trans (F.lenG _ _ _ _ h)
  have go := ended I hx (F.runG X.A X.stack s H ⟨us, []⟩ _ (us ++ ds) (vs ++ dvs) Q E hg hr I.env0 (hb s us I.kIn ll) (.refl _) rr h)
  refine wpAny_call (codeAny_mono go fun res s' hq => ?_)
  match res, hq with
  | .error _, hq => exact hq
  | .ok (.ret _), hq => exact hq
def tCallW (W : WX) (sp : Sp) (dvs : List V) (t : TA) : TE := fun σ H Q => t σ H fun vs H1 => sp (vs ++ dvs) H1 Q (WE W σ)
theorem pe_callW (F : FnX g X.prog X.w X.K X.mg X.base CX k f fd ps sp) (hgu : g = true → X.A.guards = some []) (hr : Room k X.A) (hg : Gl X x) (hm : X.mg x = some (.ref f))
    (hk : PySem.W.keepIn X.K (.ref f) = true) (hb : Binds X.K fd ps ds) (hd : Vals dvs ds) (hx : ∀ σ, PassesAt CX X σ (WE W σ))
    (ha : PA X (e :: es) t) (hdb : (x == ("__debug__" : Str)) = false := by decide) (he : starEach (e :: es) X.env = (false, eval e X.env) :: starEach es X.env := by rfl)
    (hpl : (backTo pos (starEach es X.env)).any (·.1) = false := by rfl) : PE X (.Call (.Name x p) (e :: es) [] pos) (tCallW W sp dvs t) := by
  constructor
  intro pins s σ H Q I h
  refine wpAny_Call_Name_kw (ld_glob I hg hm ?_ hdb)
  have body := thn (ha.run pos pins s σ H _ I h) (Q' := fun us s1 => X.K.In s1.heap ∧ wpAny (model X.prog X.w) X.A (call (.ref f) us) (EP X pins σ Q) X.xe s1)
    fun us s1 ⟨vs, H1, I1, r1, q1⟩ => ⟨I1.kIn, runW F hgu hr hb hd (hx σ) I1 r1 q1⟩
  exact PySem.W.callWith_K (h₀ := X.base) I.ok.mod.kin hk body he hpl
/-- o.m(e, ..) -/
def tMethW (W : WX) (C : Addr) (m : Str) (sp : Sp) (dvs : List V) (ta : TE) (t : TA) : TE := fun σ H Q => ta σ H fun x H1 => ∃ a dx fs, x = .ref a ∧ H1 a = some (.ins C dx fs) ∧ fs.lookup m = none ∧ t σ H1 fun vs H2 => sp (x :: (vs ++ dvs)) H2 Q (WE W σ)
theorem pe_methW {pl : Sem Bool} (he : PE X o ta) (c : Cls X.K C) (hm : Meth X.K C m f) (F : FnX g X.prog X.w X.K X.mg X.base CX k f fd ps sp) (hgu : g = true → X.A.guards = some []) (hr : Room k X.A) (hb : Binds X.K fd ps ds) (hd : Vals dvs ds)
    (hx : ∀ σ, PassesAt CX X σ (WE W σ)) (ha : PA X (e :: es) t) (hst : starEach (e :: es) X.env = (false, eval e X.env) :: starEach es X.env := by rfl) (hpl : (backTo pos (starEach es X.env)).any (·.1) = false := by rfl)
    (ht : eval (.Call (.Attribute o m apos) (e :: es) [] pos) X.env = (do
      let ov ← eval o X.env
      standAt apos.atName
      let (f, first) ← holding [ov] (getMethod ov m pl)
      callWith pos f first (backTo pos (starEach (e :: es) X.env)) (backToKw pos (keywordEach [] X.env))) := by rfl) : PE X (.Call (.Attribute o m apos) (e :: es) [] pos) (tMethW W C m sp dvs ta t) := by
  constructor
  intro pins s σ H Q I h
  refine PySem.W.methodCall_KW (pl := pl) (thn (he.run pins s σ H _ I h) ?_) ht
  rintro u s1 ⟨x, H1, I1, rx, a, dx, fs, rfl, ea, hl, q⟩
  cases (show u = Value.ref a from rx)
  refine getmeth_ok I1 ea c hm hl ?_
  refine PySem.W.callWith_K (first := [.ref a]) (h₀ := X.base) I.ok.mod.kin hm.kp (thn (ha.run pos pins s1 σ H1 _ I1 q) ?_) hst hpl
  rintro us s2 ⟨vs, H2, I2, r, q2⟩
  exact ⟨I2.kIn, runW (us := .ref a :: us) (vs := .ref a :: vs) F hgu hr hb hd (hx σ) I2 (.cons rfl r) q2⟩
theorem pe_methW0 {pl : Sem Bool} (he : PE X o ta) (c : Cls X.K C) (hm : Meth X.K C m f) (F : FnX g X.prog X.w X.K X.mg X.base CX k f fd ps sp) (hgu : g = true → X.A.guards = some []) (hr : Room k X.A) (hb : Binds X.K fd ps ds) (hd : Vals dvs ds)
    (hx : ∀ σ, PassesAt CX X σ (WE W σ))
    (ht : eval (.Call (.Attribute o m apos) [] [] pos) X.env = (do
      let ov ← eval o X.env
      standAt apos.atName
      let (f, first) ← holding [ov] (getMethod ov m pl)
      callWith pos f first (backTo pos (starEach [] X.env)) (backToKw pos (keywordEach [] X.env))) := by rfl) : PE X (.Call (.Attribute o m apos) [] [] pos) (tMethW W C m sp dvs ta tNil) := by
  constructor
  intro pins s σ H Q I h
  refine PySem.W.methodCall_KW (pl := pl) (thn (he.run pins s σ H _ I h) ?_) ht
  rintro u s1 ⟨x, H1, I1, rx, a, dx, fs, rfl, ea, hl, q⟩
  cases (show u = Value.ref a from rx)
  exact getmeth_ok I1 ea c hm hl (PySem.W.callWith_K0 (first := [.ref a]) I1.kIn hm.kp (runW (us := [.ref a]) (vs := [.ref a]) F hgu hr hb hd (hx σ) I1 (.cons rfl .nil) q))
/-- C(e, ..) -/
def tMakeW (W : WX) (C : Addr) (sp : Sp) (dvs : List V) (t : TA) : TE := fun σ H Q => t σ H fun vs H1 => ∀ x dx, H1 x = none → H1 dx = none → dx ≠ x →
  sp (.ref x :: (vs ++ dvs)) (upd (upd H1 dx (.own x)) x (.ins C dx [])) (fun v H2 => v = .non ∧ Q (.ref x) H2) (WE W σ)
theorem runMk {pins : List (Addr × Obj)} {σ : L2.St} {H : Hp} {s : Shared} {Q : VK} {E : XK} {us : List Value} {vs : List V} (M : Mk X.K C f) (F : FnX g X.prog X.w X.K X.mg X.base CX k f fd ps sp) (hgu : g = true → ((X.A.under (.builtin "type.__call__" ⟨.ref C :: us, []⟩)).guards = some []))
    (hr : Room (k + 1) X.A) (hb : Binds X.K fd ps ds) (hd : Vals dvs ds) (hx : PassesAt CX X σ E) (I : Inv X pins σ H s) (r : Vals vs us)
    (h : ∀ x dx, H x = none → H dx = none → dx ≠ x → sp (.ref x :: (vs ++ dvs)) (upd (upd H dx (.own x)) x (.ins C dx [])) (fun v H2 => v = .non ∧ Q (.ref x) H2) E) :
    wpAny (model X.prog X.w) X.A (call (.ref C) us) (EP X pins σ Q) X.xe s := by
  have hq := h (s.heap.objs.size + 1) s.heap.objs.size (I.hok.fresh (Nat.le_succ _)) (I.hok.fresh (Nat.le_refl _)) (Nat.ne_of_lt (Nat.lt_succ_self _))
  have I2 := Inv.made (C := C) I
  have r2 : Vals (V.ref (s.heap.objs.size + 1) :: (vs ++ dvs)) (Value.ref (s.heap.objs.size + 1) :: (us ++ ds)) := .cons rfl (r.append hd)
  have hl : (Value.ref (s.heap.objs.size + 1) :: us ++ ds).length = ps.length := r2.length.symm.trans (F.lenG _ _ _ _ hq)
  have go := F.runG (X.A.under (.builtin "type.__call__" ⟨.ref C :: us, []⟩)) X.stack _ _ ⟨Value.ref (s.heap.objs.size + 1) :: us, []⟩ _ (Value.ref (s.heap.objs.size + 1) :: (us ++ ds)) _ _ E hgu (hr.make C us []) (I2.env0.make C us [])
    (hb _ (Value.ref (s.heap.objs.size + 1) :: us) I2.kIn hl) (.refl _) r2 hq
  refine wpAny_call (make_map (f := f) I.kIn M.makes M.init (beq_iff_eq.mp M.fn) (codeAny_mono go fun res s' hq' => ?_))
  match res, hq' with
  | .error u, hq' => exact hx pins _ _ u s' I2 hq'
  | .ok (.ret u), hq' =>
    obtain ⟨v, H', I3, rv, ev, q3⟩ := I2.after hq'
    subst ev
    exact ⟨rv, ⟨V.ref (s.heap.objs.size + 1), H', I3, rfl, q3⟩⟩
  | .ok .next, hq' => cases hq'
  | .ok .brk, hq' => cases hq'
  | .ok .cont, hq' => cases hq'
theorem pe_makeW (M : Mk X.K C f) (F : FnX false X.prog X.w X.K X.mg X.base CX k f fd ps sp) (hr : Room (k + 1) X.A) (hg : Gl X x) (hm : X.mg x = some (.ref C)) (hb : Binds X.K fd ps ds) (hd : Vals dvs ds) (hx : ∀ σ, PassesAt CX X σ (WE W σ))
    (ha : PA X (e :: es) t) (hdb : (x == ("__debug__" : Str)) = false := by decide) (he : starEach (e :: es) X.env = (false, eval e X.env) :: starEach es X.env := by rfl) (hpl : (backTo pos (starEach es X.env)).any (·.1) = false := by rfl) :
    PE X (.Call (.Name x p) (e :: es) [] pos) (tMakeW W C sp dvs t) := by
  constructor
  intro pins s σ H Q I h
  refine wpAny_Call_Name_kw (ld_glob I hg hm ?_ hdb)
  have body := thn (ha.run pos pins s σ H _ I h) (Q' := fun us s1 => X.K.In s1.heap ∧ wpAny (model X.prog X.w) X.A (call (.ref C) us) (EP X pins σ Q) X.xe s1)
    fun us s1 ⟨vs, H1, I1, r1, q1⟩ => ⟨I1.kIn, runMk M F (fun z => nomatch z) hr hb hd (hx σ) I1 r1 q1⟩
  exact PySem.W.callWith_K (h₀ := X.base) I.ok.mod.kin M.kp body he hpl
theorem pe_makeW0 (M : Mk X.K C f) (F : FnX false X.prog X.w X.K X.mg X.base CX k f fd ps sp) (hr : Room (k + 1) X.A) (hg : Gl X x) (hm : X.mg x = some (.ref C)) (hb : Binds X.K fd ps ds) (hd : Vals dvs ds) (hx : ∀ σ, PassesAt CX X σ (WE W σ))
    (hdb : (x == ("__debug__" : Str)) = false := by decide) : PE X (.Call (.Name x p) [] [] pos) (tMakeW W C sp dvs tNil) := by
  constructor
  intro pins s σ H Q I h
  refine wpAny_Call_Name_kw (ld_glob I hg hm ?_ hdb)
  exact PySem.W.callWith_K0 I.kIn M.kp (runMk (us := []) M F (fun z => nomatch z) hr hb hd (hx σ) I .nil h)
end
end RC

namespace RC
open PySem PySem.Spec PyProof.Rows L2
/-! ### own exception classes over any built-in one -/
structure XcB (K : PySem.W.Frag) (C : Addr) (B newId initId : String) (bmB : List Value) : Prop where
  fb : ExcBaseFacts B newId initId bmB
  sf : StoreFacts B bmB "object.__setattr__" "object"
  ini : PySem.W.excInitIn K C bmB newId = true
  ovr : PySem.W.excOver K C bmB = true
  hd : PySem.W.hasDictIn K C = true
  sa : PySem.W.findIn K (.ref C) "__setattr__" = some (some (.builtin "object.__setattr__"))
  exC : PySem.W.subIn K (.ref C) (.type "BaseException") = some true
  tyC : PySem.W.typeIn K (.ref C) = some (.type "type")
  kC : PySem.W.keepIn K (.ref C) = true
theorem upd_self {H : Hp} {a : Addr} {o : HO} (e : H a = some o) : upd H a o = H := by
  funext b
  by_cases hb : b = a
  · rw [hb, upd_same, e]
  · rw [upd_ne hb]
section
variable {X : Cx} {pins : List (Addr × Obj)} {σ : L2.St} {H : Hp} {s : Shared} {a C : Addr} {f : Str} {y : V} {u : Value} {A : Around} {E : Value → Shared → Prop} {B newId initId : String} {bmB : List Value}
theorem x_set {Q : Unit → Shared → Prop} (T : XcB X.K C B newId initId bmB) (I : Inv X pins σ H s) (e : H a = some (exo a C none)) (hno : PySem.W.findIn X.K (.ref C) f = some none) (ry : RelV y u)
    (h : ∀ dx s', H dx = none → dx ≠ a → Inv X pins σ (upd (upd H dx (exd dx [(f, y)])) a (exo a C (some dx))) s' → Q () s') : wpAny (model X.prog X.w) A (setAttr (.ref a) f u) Q E s := by
  obtain ⟨t1, ho⟩ := exo_at I.hok e
  obtain ⟨hp, g, d, t, os⟩ := s
  have ho2 : hp.get? a = some (PySem.W.excObj C t1 none .none) := ho
  obtain ⟨cd, hc, hcd⟩ := PySem.W.any_some T.hd
  refine PySem.W.set_plain I.kIn (ox := PySem.W.excObj C t1 none .none) (od := none) ⟨ho2, rfl, rfl, trivial⟩ T.sa ?_
  refine PySem.W.osa_openX (od := none) T.sf I.kIn ⟨ho2, rfl, rfl, trivial⟩ T.ovr (NoAttr.taker hno) fun b => ?_
  refine wpAny_bind (wpAny_pure (wpAny_bind (PySem.W.instanceDict_exc ho2 (PySem.W.looks_clsIn I.kIn hc) hcd ?_)))
  have hxs : a ≠ hp.objs.size := Nat.ne_of_lt (Heap.lt_size ho)
  refine HandSPX.store_in_new ?_ ?_
  · exact ⟨_, #[], _, (Heap.get?_update_ne _ _ _ _ hxs.symm).trans (Heap.get?_push_at rfl rfl), rfl, fun e he => absurd he (by simp), fun _ => rfl⟩
  intro h' tk' hn hs
  have hx1 : (hp.push (PySem.W.dictOf [] 0)).get? a = some (PySem.W.excObj C t1 none .none) := Heap.get?_push_of_some _ ho2
  have kp : ∀ b o, b ≠ a → hp.get? b = some o → h'.get? b = some o := fun b o hb q =>
    (hs.2 b (Nat.ne_of_lt (Heap.lt_size q))).trans ((Heap.get?_update_ne _ _ _ _ hb).trans (Heap.get?_push_of_some _ q))
  have hx : h'.get? a = some ({ cls := .ref C, dict := some hp.objs.size, data := .fields #[.ref t1, .none, .none, .none, .bool false, .none] } : Obj) := (hs.2 a hxs).trans (Heap.get?_update_self _ hx1 rfl)
  have hnd : H hp.objs.size = none := I.hok.fresh (Nat.le_refl _)
  have nd : ∀ {b : Addr} {o : Obj}, hp.get? b = some o → b ≠ hp.objs.size := fun q => Nat.ne_of_lt (Heap.lt_size q)
  have na : ∀ {b : Addr}, H b = none → b ≠ a := fun n z => by
    rw [z, e] at n
    cases n
  have un : Un X.fs [] H (upd (upd H hp.objs.size (exd hp.objs.size [(f, y)])) a (exo a C (some hp.objs.size))) hp h' := by
    constructor
    · exact fun b o q n _ _ => kp b o (na n) q
    · exact fun b o q n _ _ => ⟨o.slots, kp b o (na n) q⟩
    · intro b o q n _
      rw [upd_ne (na n), upd_ne (nd q)]
      exact n
    · intro b o q _
      by_cases hb : b = a
      · subst hb
        exact ⟨_, hx⟩
      · exact ⟨o, kp b o hb q⟩
    · intro b xs q
      rw [upd_ne (at_ne e q exo_tup), upd_ne (ne_of_none q hnd)]
      exact q
    · intro b o v q
      rw [upd_ne (at_ne e q exo_frz), upd_ne (ne_of_none q hnd)]
      exact q
    · intro b ps q
      refine ⟨#[], ?_⟩
      rw [upd_ne (at_ne e q exo_tbl), upd_ne (ne_of_none q hnd), q]
      simp
  refine h hp.objs.size _ hnd hxs.symm (I.un (t' := tk') un fun b o q => ?_)
  by_cases hb : b = a
  · subst hb
    rw [upd_same] at q
    cases q
    exact exo_ok hx
  rw [upd_ne hb] at q
  by_cases hd : b = hp.objs.size
  · subst hd
    rw [upd_same] at q
    cases q
    exact exd_ok hn (relO_put (fs := []) ry fun g => True.intro)
  rw [upd_ne hd] at q
  refine (I.hok b o q).stay (fun c v hc z => kp c v ?_ z) (fun c hc => ?_) (fun c xs hc => ?_)
  · rcases hc with hc | hc
    · subst hc
      exact hb
    · exact at_ne e hc exo_own
  · rw [upd_ne (at_ne e hc exo_own), upd_ne (ne_of_none hc hnd)]
    exact hc
  · rw [upd_ne (at_ne e hc exo_tup), upd_ne (ne_of_none hc hnd)]
    exact hc
theorem x_init {us : List Value} {Q : Value → Shared → Prop} (T : XcB X.K C B newId initId bmB) (I : Inv X pins σ H s) (e : H a = some (exo a C none)) (hl : us.length ≤ sizeLine) (h : ∀ s', Inv X pins σ H s' → Q .none s') :
    wpAny (model X.prog X.w) A (call (.builtin initId) (.ref a :: us)) Q E s := by
  obtain ⟨nm, N, qn, bs, bm, hdct, sn, sub, ab, col, dd, k0, k1, k2, k3, k5, hC, hT⟩ := PySem.W.excInit_of I.kIn T.ini
  obtain ⟨t1, ho⟩ := exo_at I.hok e
  obtain ⟨hp, g, d, t, os⟩ := s
  refine wpAny_call (HandSPX.init_base T.fb hT hC ho hl fun h' t2 k hx => ?_)
  have J := I.write (t' := t) (x := a) (e := a) (o := exo a C none) (by rw [e]; exact True.intro) (.inl rfl) k ⟨_, hx⟩ (exo_ok hx)
  rw [upd_self e] at J
  exact h _ J
end
/-- D.__init__(self, ..), D an own class over the built-in one -/
structure XcI (K : PySem.W.Frag) (D : Addr) (initId : String) : Prop where
  ga : PySem.W.specialIn K (.ref D) "__getattribute__" = some (some (.builtin "type.__getattribute__"))
  ty : PySem.W.typeIn K (.ref D) = some (.type "type")
  rd : PySem.W.readsIn K D (.type "type") = true
  fi : PySem.W.findCls K (.ref D) (.type "type") "__init__" = some (.val (.builtin initId))
def tXi (K : PySem.W.Frag) (initId : String) (ta : TA) : TE := fun σ H Q => ta σ H fun vs H1 => ∃ (a C : Addr) (ws : List V) (B newId : String) (bmB : List Value), vs = .ref a :: ws ∧ ws.length ≤ 1000 ∧ XcB K C B newId initId bmB ∧ H1 a = some (exo a C none) ∧ Q .non H1
def tXs (K : PySem.W.Frag) (f : Str) (to te : TE) : TS := fun D σ H => te σ H fun y H1 => to σ H1 fun x H2 => ∃ (a C : Addr) (B newId initId : String) (bmB : List Value), x = .ref a ∧ XcB K C B newId initId bmB ∧ PySem.W.findIn K (.ref C) f = some none ∧
  H2 a = some (exo a C none) ∧ ∀ dx, H2 dx = none → dx ≠ a → D.nx σ (upd (upd H2 dx (exd dx [(f, y)])) a (exo a C (some dx)))
def tXm (C : Addr) (sp : Sp) (ta : TA) : L2.St → Hp → XK → Prop := fun σ H Q => ta σ H fun vs H1 => vs.length ≤ 1000 ∧ ∀ a, H1 a = none → sp (.ref a :: vs) (upd H1 a (exo a C none))
  (fun v H2 => v = .non ∧ ∃ (d : Addr) (fs : List (Str × V)), H2 a = some (exo a C (some d)) ∧ H2 d = some (exd d fs) ∧ H1 d = none ∧ Q (.ref C) (some d) (upd (del H2 a) d (.xd fs))) (fun _ _ _ => False)
section
variable {X : Cx} {o e : Expr} {es : List Expr} {to te : TE} {ta : TA} {f P : Str} {p p' p1 p2 pos : Pos} {C D : Addr} {initId : String}
theorem pe_xi {pl : Sem Bool} (hg : Gl X P) (hm : X.mg P = some (.ref D)) (T : XcI X.K D initId) (ha : PA X (e :: es) ta)
    (hc : eval (.Call (.Attribute (.Name P p1) "__init__" p2) (e :: es) [] pos) X.env = (do
      let ov ← eval (.Name P p1) X.env
      standAt p2.atName
      let (f, first) ← holding [ov] (getMethod ov "__init__" pl)
      callWith pos f first (backTo pos (starEach (e :: es) X.env)) (backToKw pos (keywordEach [] X.env))) := by rfl)
    (hh : PySem.W.handedIn (.builtin initId) = true := by decide +kernel) (hdb : (P == ("__debug__" : Str)) = false := by decide)
    (he : starEach (e :: es) X.env = (false, eval e X.env) :: starEach es X.env := by rfl) (hpl : (backTo pos (starEach es X.env)).any (·.1) = false := by rfl) :
    PE X (.Call (.Attribute (.Name P p1) "__init__" p2) (e :: es) [] pos) (tXi X.K initId ta) := by
  constructor
  intro pins s σ H Q I h
  refine PySem.W.methodCall_KW (ld_glob I hg hm ?_ hdb) hc
  obtain ⟨m, fr⟩ := I.fr
  refine PySem.W.method_of_cls fr I.ok.mod.kin T.ga (PySem.W.cls_val fr I.ok.mod.kin T.ty T.rd T.fi hh ?_)
  show wpAny _ _ (callWith pos (Value.builtin initId) [] (backTo pos (starEach (e :: es) X.env)) []) _ _ _
  refine PyProof.Rows.callWith_method1 (thn (ha.run pos pins _ σ H _ (I.tok _) h) ?_) he hpl
  rintro us s1 ⟨vs, H1, I1, r1, a, C, ws, B, newId, bmB, rfl, hl, T, ea, q⟩
  cases r1 with
  | @cons _ u0 _ ur ra rw' =>
    cases (show u0 = Value.ref a from ra)
    have hlen : ur.length ≤ sizeLine := by
      rw [← Paired.length rw', sizeLine_eq]
      omega
    exact x_init T I1 ea hlen fun s' J => ⟨.non, H1, J, rfl, q⟩
theorem ps_xs (ho : PE X o to) (he : PE X e te) (hs : swapsWith e (some (.Attribute o f p')) pos.line X.env = pure false := by rfl) : PS X (.Assign [.Attribute o f p'] e pos) (tXs X.K f to te) := by
  constructor
  intro pins s σ H D I h
  refine plainObj_wpAny_Assign_Attribute (thn (he.run pins s σ H _ I h) ?_) hs
  rintro v s1 ⟨y, H1, I1, r1, q1⟩
  refine thn (ho.run pins s1 σ H1 _ I1 q1) ?_
  rintro u s2 ⟨x, H2, I2, r2, a, C, B, newId, initId, bmB, rfl, T, hno, ea, q⟩
  cases (show u = Value.ref a from r2)
  exact x_set T I2 ea hno r1 fun dx s' n ne J => ⟨σ, _, J, q dx n ne⟩
theorem pmk_x {CX : CXT} {x : Str} {C fI : Addr} {k : Nat} {fd : FuncData} {ps : List Str} {sp : Sp} {B newId : String} {bmB : List Value} (T : XcB X.K C B newId initId bmB) (iC : PySem.W.findIn X.K (.ref C) "__init__" = some (some (.ref fI))) (tI : PySem.W.typeIn X.K (.ref fI) = some (.type "function"))
    (F : FnX false X.prog X.w X.K X.mg X.base CX k fI fd ps sp) (hr : Room (k + 1) X.A) (hb : Binds X.K fd ps []) (hx : Passes CX X (fun _ _ _ => False)) (hg : Gl X x) (hm : X.mg x = some (.ref C)) (ha : PA X (e :: es) ta)
    (hdb : (x == ("__debug__" : Str)) = false := by decide) (he : starEach (e :: es) X.env = (false, eval e X.env) :: starEach es X.env := by rfl) (hpl : (backTo pos (starEach es X.env)).any (·.1) = false := by rfl) :
    PMk X (.Call (.Name x p) (e :: es) [] pos) (tXm C sp ta) := by
  intro pins s σ H Q I h
  refine wpAny_Call_Name_kw (ld_glob I hg hm ?_ hdb)
  refine PySem.W.callWith_K (h₀ := X.base) I.ok.mod.kin T.kC (thn (ha.run pos pins s σ H _ I h) ?_) he hpl
  rintro us s1 ⟨vs, H1, I1, r1, hz, q1⟩
  refine ⟨I1.kIn, ?_⟩
  show wpAny _ _ (call (.ref C) us) _ _ _
  obtain ⟨nm, N, qn, bs, bm, hdct, sn, sub, ab, col, dd, k0, k1, k2, k3, k5, hC, hT⟩ := PySem.W.excInit_of I1.kIn T.ini
  obtain ⟨hp, g, dr, tk, os⟩ := s1
  have hsz : hp.objs.size ≤ hp.objs.size + 1 := Nat.le_succ _
  have hq := q1 (hp.objs.size + 1) (I1.hok.fresh hsz)
  have kk : ∀ b o, hp.get? b = some o → ((hp.push (PySem.W.kdv_tup us)).push (HandSPX.excO C hp.objs.size)).get? b = some o := fun b o z => Heap.get?_push_of_some _ (Heap.get?_push_of_some _ z)
  have hget : ((hp.push (PySem.W.kdv_tup us)).push (HandSPX.excO C hp.objs.size)).get? (hp.objs.size + 1) = some (HandSPX.excO C hp.objs.size) := by heap_get
  have I2 := I1.laid (t' := tk) (a := hp.objs.size + 1) (o := exo (hp.objs.size + 1) C none) (h' := (hp.push (PySem.W.kdv_tup us)).push (HandSPX.excO C hp.objs.size)) kk hsz (exo_ok hget)
  have r2 : Vals (V.ref (hp.objs.size + 1) :: vs) (Value.ref (hp.objs.size + 1) :: us) := .cons rfl r1
  have hl : (Value.ref (hp.objs.size + 1) :: us ++ []).length = ps.length := by
    rw [List.append_nil]
    exact r2.length.symm.trans (F.lenG _ _ _ _ hq)
  have hus : us.length ≤ sizeLine := by
    rw [← Paired.length r1, sizeLine_eq]
    omega
  have hb2 := hb ⟨(hp.push (PySem.W.kdv_tup us)).push (HandSPX.excO C hp.objs.size), g, dr, tk, os⟩ (Value.ref (hp.objs.size + 1) :: us) I2.kIn hl
  rw [List.append_nil] at hb2
  have go := F.runG (X.A.under (.builtin "type.__call__" ⟨.ref C :: us, []⟩)) X.stack _ _ ⟨Value.ref (hp.objs.size + 1) :: us, []⟩ _ (Value.ref (hp.objs.size + 1) :: us) _ _ (fun _ _ _ => False) (fun z => nomatch z) (hr.make C us []) (I2.env0.make C us []) hb2 (.refl _) r2 hq
  refine wpAny_call (HandSPX.call_own T.fb hT hC (PySem.W.looks_findIn I1.kIn iC) (fun self => PySem.W.bind_fn I1.kIn self tI) hus (codeAny_mono go fun r s' hq' => ?_))
  match r, hq' with
  | .error er, hq' => exact hx pins σ _ _ er s' I2 hq'
  | .ok (.ret u), hq' =>
    obtain ⟨v, H2, os2, bare2, un2, hok2, rv, rfl, d, fs, ea, ed, hd1, q2⟩ := hq'
    obtain ⟨h2, g2, d2, t2, os'⟩ := s'
    exact ⟨rv, mk_end (raises_own T.exC T.tyC) I1 hsz kk un2 hok2 os2 bare2 ea ed hd1 q2⟩
  | .ok .next, hq' => cases hq'
  | .ok .brk, hq' => cases hq'
  | .ok .cont, hq' => cases hq'
end
end RC

namespace RC
open PySem PySem.Spec PyProof.Rows L2
/-! ### raise X(e) -/
def spX (C : Addr) (f : Str) : Sp := fun vs H Q _ => ∃ (a : Addr) (v : V), vs = [.ref a, v] ∧ H a = some (exo a C none) ∧ ∀ dx, H dx = none → dx ≠ a → Q .non (upd (upd H dx (exd dx [(f, v)])) a (exo a C (some dx)))
theorem lenX {C : Addr} {f : Str} (vs : List V) (H : Hp) (Q : VK) (E : XK) (h : spX C f vs H Q E) : vs.length = 2 := by
  obtain ⟨a, v, rfl, _⟩ := h
  rfl
def tXz (C : Addr) (f : Str) (te : TE) : L2.St → Hp → XK → Prop := fun σ H Q => te σ H fun v H1 => ∀ d, H1 d = none → Q (.ref C) (some d) (upd H1 d (.xd [(f, v)]))
theorem PE.wk {X : Cx} {e : Expr} {te : TE} (h : PE X e te) : PE X e (fun σ H Q => ∃ R : VK, te σ H R ∧ ∀ v H1, R v H1 → Q v H1) :=
  ⟨fun pins s σ H _ I ⟨R, h1, h2⟩ => thn (h.run pins s σ H R I h1) fun _ _ ⟨v, H1, I1, r, q⟩ => ⟨v, H1, I1, r, h2 v H1 q⟩⟩
theorem pmk_xz {X : Cx} {CX : CXT} {x f : Str} {C fI : Addr} {k : Nat} {fd : FuncData} {ps : List Str} {B newId initId : String} {bmB : List Value} {e : Expr} {te : TE} {p pos : Pos} (T : XcB X.K C B newId initId bmB) (iC : PySem.W.findIn X.K (.ref C) "__init__" = some (some (.ref fI)))
    (tI : PySem.W.typeIn X.K (.ref fI) = some (.type "function")) (F : FnX false X.prog X.w X.K X.mg X.base CX k fI fd ps (spX C f)) (hr : Room (k + 1) X.A) (hb : Binds X.K fd ps []) (hx : Passes CX X (fun _ _ _ => False)) (hg : Gl X x) (hm : X.mg x = some (.ref C)) (ha : PE X e te)
    (hdb : (x == ("__debug__" : Str)) = false := by decide) (he : starEach [e] X.env = (false, eval e X.env) :: starEach [] X.env := by rfl) :
    PMk X (.Call (.Name x p) [e] [] pos) (tXz C f te) := by
  have key : ∀ (Q : XK) (v : V) (H1 : Hp), (∀ d, H1 d = none → Q (.ref C) (some d) (upd H1 d (.xd [(f, v)]))) → [v].length ≤ 1000 ∧ ∀ a, H1 a = none → spX C f (.ref a :: [v]) (upd H1 a (exo a C none))
      (fun v H2 => v = .non ∧ ∃ (d : Addr) (fs : List (Str × V)), H2 a = some (exo a C (some d)) ∧ H2 d = some (exd d fs) ∧ H1 d = none ∧ Q (.ref C) (some d) (upd (del H2 a) d (.xd fs))) (fun _ _ _ => False) := by
    intro Q v H1 q
    refine ⟨by simp, fun a na => ⟨a, v, rfl, upd_same, fun dx hdx hne => ⟨rfl, dx, [(f, v)], upd_same, ?_, ?_, ?_⟩⟩⟩
    · rw [upd_ne hne, upd_same]
    · rw [upd_ne hne] at hdx
      exact hdx
    · have e1 : upd (del (upd (upd (upd H1 a (exo a C none)) dx (exd dx [(f, v)])) a (exo a C (some dx))) a) dx (.xd [(f, v)]) = upd H1 dx (.xd [(f, v)]) := by
        funext b
        by_cases hb : b = dx
        · subst hb
          rw [upd_same, upd_same]
        · rw [upd_ne hb, upd_ne hb]
          by_cases hba : b = a
          · subst hba
            rw [del_same, na]
          · rw [del_ne hba, upd_ne hba, upd_ne hb, upd_ne hba]
      rw [e1]
      rw [upd_ne hne] at hdx
      exact q dx hdx
  intro pins s σ H Q I h
  have hp := pa_cons (PE.wk ha) (pa_nil (X := X)) he
  exact pmk_x (p := p) (pos := pos) T iC tI F hr hb hx hg hm hp hdb he rfl pins s σ H Q I ⟨_, h, fun v H1 q => key Q v H1 q⟩
/-- raise X(e) -/
def tRz (W : WX) (C : Addr) (f : Str) (te : TE) : TS := fun _ σ H => te σ H fun v H1 => ∀ d, H1 d = none → W (.ref C) (some d) σ (upd H1 d (.xd [(f, v)]))
theorem ps_rz {X : Cx} {W : WX} {CX : CXT} {x f : Str} {C fI : Addr} {k : Nat} {fd : FuncData} {ps : List Str} {B newId initId : String} {bmB : List Value} {e : Expr} {te : TE} {p pos pos' : Pos} (hc : X.calm = true) (tk : Takes X W) (T : XcB X.K C B newId initId bmB)
    (iC : PySem.W.findIn X.K (.ref C) "__init__" = some (some (.ref fI))) (tI : PySem.W.typeIn X.K (.ref fI) = some (.type "function")) (F : FnX false X.prog X.w X.K X.mg X.base CX k fI fd ps (spX C f)) (hr : Room (k + 1) X.A) (hb : Binds X.K fd ps []) (hx : Passes CX X (fun _ _ _ => False))
    (hg : Gl X x) (hm : X.mg x = some (.ref C)) (ha : PE X e te) (hdb : (x == ("__debug__" : Str)) = false := by decide) (he : starEach [e] X.env = (false, eval e X.env) :: starEach [] X.env := by rfl) :
    PS X (.Raise (some (.Call (.Name x p) [e] [] pos)) none pos') (tRz W C f te) := ps_raise hc tk (pmk_xz T iC tI F hr hb hx hg hm ha hdb he)
/-- the reading of such an __init__ -/
theorem pureX {K : PySem.W.Frag} {C : Addr} {f msg : Str} {B newId initId : String} {bmB : List Value} {N : List Str} (hN : start N [] = [none, none]) (T : XcB K C B newId initId bmB) (hno : PySem.W.findIn K (.ref C) f = some none) (vs : List V) (H : Hp) (Q : VK) (E : XK) (h : spX C f vs H Q E) :
    tSeq (tDrop (tXi K initId (tCons (tVar 0) (tCons (tC (.str msg)) tNil)))) (tXs K f (tVar 0) (tVar 1)) { nx := fun _ H' => Q .non H', rt := Q } (start N vs) H := by
  obtain ⟨a, v, rfl, ha, q⟩ := h
  have e : start N [V.ref a, v] = [some (V.ref a), some v] := by
    have l : N.length = 2 := by
      have := congrArg List.length hN
      simpa [L2.start] using this
    simp [L2.start, l]
  rw [e]
  exact ⟨_, rfl, a, C, [.str msg], B, newId, bmB, rfl, by simp, T, ha, v, rfl, _, rfl, a, C, B, newId, initId, bmB, rfl, T, hno, ha, q⟩

/-! ### try: body, except clauses of any form -/
/-- a clause's test: evaluated in the suite's context it tells whether the exception is of one of the classes cs -/
def TestOk (X : Cx) (t : Expr) (cs : List Value) : Prop := ∀ (a : Addr) (oe : Obj) (pn pins : List (Addr × Obj)) (σ : L2.St) (H : Hp) (s : Shared) (cls : Value) (b : Bool) (Q : Bool → Shared → Prop) (E : Value → Shared → Prop),
  Inv (X.suite a ((a, oe) :: pn)) pins σ H s → PySem.W.Looks (model X.prog X.w) s.heap (typeOf (.ref a)) cls → PySem.W.exmAny X.K cls cs = some b →
    (∀ h', (∀ q o, s.heap.get? q = some o → h'.get? q = some o) → Q b { s with heap := h' }) →
      wpAny (model X.prog X.w) (X.A.mark (some (.ref a))) (eval t X.env) (fun c s1 => wpAny (model X.prog X.w) (X.A.mark (some (.ref a))) (excMatches (.ref a) c) Q E s1) E s
section
variable {X : Cx} {x1 x2 x3 : Str} {c1 c2 c3 : Value} {p1 p2 p3 tp : Pos} {kk : Nat}
theorem nameAt {a : Addr} {oe : Obj} {pn pins : List (Addr × Obj)} {σ : L2.St} {H : Hp} {s : Shared} {Q : Value → Shared → Prop} {E : Value → Shared → Prop} (hc : Names X x1 c1) (I : Inv (X.suite a ((a, oe) :: pn)) pins σ H s) (q : Q c1 s) :
    wpAny (model X.prog X.w) (X.A.mark (some (.ref a))) (eval (.Name x1 p1) X.env) Q E s := by
  obtain ⟨hg, hdbg, hm | ⟨hm, hv, hnn⟩⟩ := hc
  · exact ld_glob (X := X.suite a ((a, oe) :: pn)) I hg hm q hdbg
  · exact ld_blt (X := X.suite a ((a, oe) :: pn)) I hg hm hv q hnn hdbg
theorem test1 (hc : Names X x1 c1) : TestOk X (.Name x1 p1) [c1] := by
  intro a oe pn pins σ H s cls b Q E I LT he q
  obtain ⟨b1, d1, e1, e2, rfl⟩ := PySem.W.exmAny_cons he
  cases e2
  rw [Bool.or_false] at q
  exact nameAt hc I ((PySem.W.exm_one I.kIn LT e1).here (q s.heap fun _ _ z => z))
theorem test2 (h1 : Names X x1 c1) (h2 : Names X x2 c2) : TestOk X (.Tuple [.Name x1 p1, .Name x2 p2] kk tp) [c1, c2] := by
  intro a oe pn pins σ H s cls b Q E I LT he q
  refine wpAny_Tuple (wpAny_items_cons (nameAt h1 I ?_))
  refine wpAny_items_cons (nameAt h2 I (wpAny_items_nil ⟨by size_fits, ?_⟩))
  have kp : ∀ q o, s.heap.get? q = some o → (s.heap.push { cls := .type "tuple", data := .seq [c1, c2].toArray }).get? q = some o := fun _ _ z => Heap.get?_push_of_some _ z
  exact (PySem.W.exm_tup2 (I.kIn.keeps kp) (LT.keeps kp) (Heap.get?_push_size s.heap rfl) he).here (q _ kp)
theorem test3 (h1 : Names X x1 c1) (h2 : Names X x2 c2) (h3 : Names X x3 c3) : TestOk X (.Tuple [.Name x1 p1, .Name x2 p2, .Name x3 p3] kk tp) [c1, c2, c3] := by
  intro a oe pn pins σ H s cls b Q E I LT he q
  refine wpAny_Tuple (wpAny_items_cons (nameAt h1 I ?_))
  refine wpAny_items_cons (nameAt h2 I (wpAny_items_cons (nameAt h3 I (wpAny_items_nil ⟨by size_fits, ?_⟩))))
  have kp : ∀ q o, s.heap.get? q = some o → (s.heap.push { cls := .type "tuple", data := .seq [c1, c2, c3].toArray }).get? q = some o := fun _ _ z => Heap.get?_push_of_some _ z
  exact (PySem.W.exm_tup3 (I.kIn.keeps kp) (LT.keeps kp) (Heap.get?_push_size s.heap rfl) he).here (q _ kp)
end
/-- a clause: its classes, the slot of its name, its suite -/
structure Hd where
  cs : List Value
  sl : Option Nat
  ts : Addr → Value → Option Addr → TS
def Hd.put (σ : L2.St) (a : Addr) : Option Nat → L2.St
  | none => σ
  | some i => σ.set i (some (.ref a))
def Hd.ends (D : Ends) : Option Nat → Ends
  | none => D
  | some i => { nx := fun σ' H' => D.nx (σ'.set i none) H', rt := D.rt, bk := fun σ' H' => D.bk (σ'.set i none) H', ct := fun σ' H' => D.ct (σ'.set i none) H' }
def wTry (K : PySem.W.Frag) (W : WX) (D : Ends) : List Hd → WX
  | [] => W
  | h :: r => fun cls d σ H => ∃ b, PySem.W.exmAny K cls h.cs = some b ∧ (b = true → ∀ a, H a = none → h.ts a cls d (Hd.ends D h.sl) (Hd.put σ a h.sl) H) ∧ (b = false → wTry K W D r cls d σ H)
inductive HdOk (X : Cx) : List ExceptHandler → List Hd → Prop
  | nil : HdOk X [] []
  | plain {t : Expr} {cs : List Value} {ts : Addr → Value → Option Addr → TS} {b₀ : Stmt} {suite : List Stmt} {pos : Pos} {hds : List ExceptHandler} {l : List Hd} (ht : TestOk X t cs)
      (hsu : ∀ (a : Addr) (oe : Obj) (cls : Value) (d : Option Addr) (pn : List (Addr × Obj)), Zc cls d oe → (∃ vs, oe.data = .fields vs) → PSs (X.suite a ((a, oe) :: pn)) (b₀ :: suite) (ts a cls d)) (r : HdOk X hds l) :
      HdOk X (.ExceptHandler (some t) none (b₀ :: suite) pos :: hds) (⟨cs, none, ts⟩ :: l)
  | named {t : Expr} {cs : List Value} {n : Str} {i : Nat} {ts : Addr → Value → Option Addr → TS} {b₀ : Stmt} {suite : List Stmt} {pos : Pos} {hds : List ExceptHandler} {l : List Hd} (ht : TestOk X t cs) (hi : X.N[i]? = some n) (hln : X.env.kindOf n = some .local)
      (hsu : ∀ (a : Addr) (oe : Obj) (cls : Value) (d : Option Addr) (pn : List (Addr × Obj)), Zc cls d oe → (∃ vs, oe.data = .fields vs) → PSs (X.suite a ((a, oe) :: pn)) (b₀ :: suite) (ts a cls d)) (r : HdOk X hds l) :
      HdOk X (.ExceptHandler (some t) (some n) (b₀ :: suite) pos :: hds) (⟨cs, some i, ts⟩ :: l)
theorem flying_kept {B : Heap} {l : List Env} {a : Addr} {Z : Obj → Prop} {h h' : Heap} (fl : HandSPX.FlyingZ B l a Z h) (k : ∀ b o, h.get? b = some o → h'.get? b = some o) : HandSPX.FlyingZ B l a Z h' := by
  obtain ⟨f1, f2, f3, oe, vs, T, oT, ts, he, hz, hd, h1, hn, hne, hT, hdT, h3⟩ := fl
  exact ⟨fun b o q => k b o (f1 b o q), f2, f3.of_keeps fun b o q _ => ⟨o, k b o q, rfl⟩, oe, vs, T, oT, ts, k _ _ he, hz, hd, h1, hn, hne, k _ _ hT, hdT, h3⟩
section
variable {X : Cx} {body : List Stmt} {h₀ : ExceptHandler} {hds : List ExceptHandler} {l : List Hd} {pos : Pos} {tb : WX → TS} {W : WX}
theorem ps_tryG (hs : X.stack = X.env :: X.outer) (hf : X.env.frame = some X.env.locals) (hN : X.N.Nodup) (tk : Takes X W)
    (hb : ∀ (W' : WX) (pn : List (Addr × Obj)) (xe : Value → Shared → Prop), Takes (X.tr pn xe) W' → PassesOwn (model X.prog X.w) X.A X.env xe → PSs (X.tr pn xe) body (tb W'))
    (hh : HdOk X (h₀ :: hds) l) : PS X (.Try body (h₀ :: hds) [] [] pos) (fun D σ H => tb (wTry X.K W D l) D σ H) := by
  constructor
  intro pins s σ H D I h
  have ok := I.ok
  have hfr : X.A.frames = some (X.env :: X.outer) := ok.frames.trans (by rw [hs])
  refine wpAny_Try_except ?_
  let xe : Value → Shared → Prop := fun e s₁ => wpAny (model X.prog X.w) X.A (noteFrame e X.env) (fun _ s₂ => wpAny (model X.prog X.w) X.A (setFlight e none)
    (fun _ s₃ => wpAny (model X.prog X.w) X.A (handleBy e X.env (h₀ :: hds)) (SP X pins D) X.xe s₃) X.xe s₂) X.xe s₁
  have tkb : Takes (X.tr (X.pn ++ pins) xe) (wTry X.K W D l) := by
    rintro u s' ⟨a, B, sI, pins', σ', H', cls, d, rfl, J', nb, up, sky, na, os, ag, w⟩
    have J : Inv X pins σ' H' sI := J'.ofTry ok
    have sky' : Sky B (X.env :: X.outer) a (Zc cls d) X.env.locals s'.heap := hs ▸ sky
    show wpAny (model X.prog X.w) X.A (noteFrame (.ref a) X.env) _ _ _
    refine Sky.land Zc.steady hfr hf sky' fun h3 fl3 up3 => ?_
    have main : ∀ {hds' : List ExceptHandler} {l' : List Hd}, HdOk X hds' l' → wTry X.K W D l' cls d σ' H' → ∀ h3, HandSPX.FlyingZ B (X.env :: X.outer) a (Zc cls d) h3 → sI.heap.UpToSlots h3 →
        wpAny (model X.prog X.w) X.A (handleBy (.ref a) X.env hds') (SP X pins D) X.xe { s' with heap := h3 } := by
      intro hds' l' hk
      have place : ∀ {h3 : Heap}, HandSPX.FlyingZ B (X.env :: X.outer) a (Zc cls d) h3 → sI.heap.UpToSlots h3 →
          ∃ oe, Zc cls d oe ∧ (∃ vs, oe.data = .fields vs) ∧ Inv (X.suite a ((a, oe) :: (X.pn ++ pins))) [] σ' H' { s' with heap := h3 } ∧ PySem.W.Looks (model X.prog X.w) h3 (typeOf (.ref a)) cls := by
        intro h3 fl up
        have J3 : Inv X pins σ' H' { s' with heap := h3 } := J.landed nb fl.1 up os ag
        obtain ⟨oe, vs, he, hz, hd⟩ := fl.there
        have nfr : a ∉ frs (X.env :: X.outer) := fun hm => by
          obtain ⟨_, o', e', hnf⟩ := fl.2.2.1.mem hm
          rw [he] at e'
          cases e'
          exact hnf _ hd
        have nL : a ≠ X.env.locals := fun z => nfr (List.mem_filterMap.mpr ⟨X.env, List.mem_cons_self, by rw [hf, z]⟩)
        have nF : a ∉ X.fs := fun hm => by
          obtain ⟨e, he, q⟩ := List.mem_filterMap.mp hm
          exact nfr (List.mem_filterMap.mpr ⟨e, List.mem_cons_of_mem _ he, q⟩)
        exact ⟨oe, hz, ⟨vs, hd⟩, J3.suite he hd na nL nF, fun A Q E s k q => wpAny_typeOf_ref (k _ _ he) (by rw [hz.1]; exact q)⟩
      induction hk with
      | nil =>
        intro w h3 fl3 up3
        refine wpAny_handleBy_nil ?_
        obtain ⟨k1, k2, k3, oe, vs, T, oT, ts', he, hz, hd, h1, hr⟩ := id fl3
        unfold PySem.passOn
        refine wpAny_bind (wpAny_field he hd h1 ?_)
        rw [if_neg (show ¬ ((Value.ref T == Value.none) = true) from by simp)]
        have fin : wpAny (model X.prog X.w) X.A (setFlight (.ref a) X.env.frame) (fun _ s4 => wpAny (model X.prog X.w) X.A (throw (.ref a) : Sem Flow) (SP X pins D) X.xe s4) X.xe { s' with heap := h3 } := by
          rw [hf]
          refine HandSPX.setFlight_upZ fl3 fun h4 hh4 up4 => wpAny_throw (tk _ _ ⟨a, B, sI, pins, σ', H', cls, d, rfl, J, nb, up3.trans up4, .inr (.inr ?_), na, os, ag, w⟩)
          rw [hs]
          exact hh4
        first
          | exact wpAny_bind (wpAny_pure (wpAny_bind fin))
          | exact wpAny_bind fin
      | @plain t cs ts b₀ suite pos hds2 l2 ht hsu r ih =>
        rintro ⟨b, hb1, hyes, hno⟩ h3 fl3 up3
        obtain ⟨oe3, _, _, S3, LT⟩ := place fl3 up3
        refine wpAny_handleBy_cons (codeAny_handlers_test (ht a oe3 _ [] σ' H' _ cls b _ _ S3 LT hb1 fun h4 k4 => ?_)) (by intro q; cases q)
        have fl4 := flying_kept fl3 k4
        have up4 := up3.trans (Heap.UpToSlots.of_keeps k4)
        cases b with
        | true =>
          refine codeAny_handlers_suite ?_
          refine HandSPX.lands_againZ fl4 fun h5 fl5 up5 => ?_
          obtain ⟨oe5, hz5, hd5, S5, _⟩ := place fl5 (up4.trans up5)
          refine wpAny_mono ((hsu a oe5 cls d (X.pn ++ pins) hz5 hd5).run [] _ _ H' _ S5 (hyes rfl a na)) (fun f s6 hsp => ?_) (fun _ _ z => False.elim z)
          match f, hsp with
          | .next, ⟨σ6, H6, S6, q6⟩ => exact ⟨_, _, S6.unsuite ok, q6⟩
          | .brk, ⟨σ6, H6, S6, q6⟩ => exact ⟨_, _, S6.unsuite ok, q6⟩
          | .cont, ⟨σ6, H6, S6, q6⟩ => exact ⟨_, _, S6.unsuite ok, q6⟩
          | .ret u, ⟨v6, σ6, H6, S6, r6, q6⟩ => exact ⟨_, _, _, S6.unsuite ok, r6, q6⟩
        | false => exact ih (hno rfl) h4 fl4 up4
      | @named t cs n i ts b₀ suite pos hds2 l2 ht hi hln hsu r ih =>
        rintro ⟨b, hb1, hyes, hno⟩ h3 fl3 up3
        obtain ⟨oe3, _, _, S3, LT⟩ := place fl3 up3
        refine wpAny_handleBy_cons (codeAny_handlers_test (ht a oe3 _ [] σ' H' _ cls b _ _ S3 LT hb1 fun h4 k4 => ?_)) (by intro q; cases q)
        have fl4 := flying_kept fl3 k4
        have up4 := up3.trans (Heap.UpToSlots.of_keeps k4)
        cases b with
        | true =>
          refine codeAny_handlers_suite_as ?_
          refine HandSPX.lands_againZ fl4 fun h5 fl5 up5 => ?_
          obtain ⟨oe5, hz5, hd5, S5, _⟩ := place fl5 (up4.trans up5)
          refine store_ok (X := X.suite a ((a, oe5) :: (X.pn ++ pins))) (v := .ref a) S5 hN hi (.inl hln) rfl (fun s7 S7 => ?_) (.inr hln)
          refine wpAny_mono ((hsu a oe5 cls d (X.pn ++ pins) hz5 hd5).run [] s7 _ H' _ S7 (hyes rfl a na)) (fun f s6 hsp => ?_) (fun _ _ z => False.elim z)
          have end_ : ∀ {σ6 : L2.St} {H6 : Hp} {Q : Shared → Prop}, Inv (X.suite a ((a, oe5) :: (X.pn ++ pins))) [] σ6 H6 s6 → (∀ s7, Inv X pins (σ6.set i none) H6 s7 → Q s7) →
              wpAny (model X.prog X.w) X.A (do bindName X.env n .none; unbindBehindTheSuite X.env n pos) (fun _ s7 => Q s7) X.xe s6 := fun S6 hq => gone_ok (S6.unsuite ok) hN hi hln hq
          match f, hsp with
          | .next, ⟨σ6, H6, S6, q6⟩ => exact end_ S6 fun s7 J7 => ⟨_, _, J7, q6⟩
          | .brk, ⟨σ6, H6, S6, q6⟩ => exact end_ S6 fun s7 J7 => ⟨_, _, J7, q6⟩
          | .cont, ⟨σ6, H6, S6, q6⟩ => exact end_ S6 fun s7 J7 => ⟨_, _, J7, q6⟩
          | .ret u, ⟨v6, σ6, H6, S6, r6, q6⟩ => exact end_ S6 fun s7 J7 => ⟨_, _, _, J7, r6, q6⟩
        | false => exact ih (hno rfl) h4 fl4 up4
    exact main hh w h3 fl3 (up.trans up3)
  refine wpAny_mono ((hb (wTry X.K W D l) (X.pn ++ pins) xe tkb PassesOwn.looking).run [] s σ H D (I.toTry _) h) (fun f s1 hsp => ?_) (fun e s1 he => he)
  match f, hsp with
  | .next, ⟨σ', H', J', q⟩ => exact wpAny_execs_nil ⟨σ', H', J'.ofTry ok, q⟩
  | .brk, ⟨σ', H', J', q⟩ => exact ⟨σ', H', J'.ofTry ok, q⟩
  | .cont, ⟨σ', H', J', q⟩ => exact ⟨σ', H', J'.ofTry ok, q⟩
  | .ret u, ⟨v, σ', H', J', r, q⟩ => exact ⟨v, σ', H', J'.ofTry ok, r, q⟩
end
end RC

namespace RC
open PySem PySem.Spec PyProof.Rows L2
/-! ### the exception that a suite holds -/
def KnX (K : PySem.W.Frag) (cls : Value) (d : Option Addr) (H : Hp) : Prop := ∃ D, cls = .ref D ∧ ExcC K D ∧ (d = none ∨ ∃ dd fs, d = some dd ∧ H dd = some (.xd fs))
def rIsX (K : PySem.W.Frag) (a : Addr) (cls : Value) (d : Option Addr) : List V → Hp → VK → Prop := fun xs H Q => ∃ (c : V) (cv : Value) (b : Bool), xs = [.ref a, c] ∧ KnX K cls d H ∧ ClsV c cv ∧ PySem.W.kitOne K cls cv = some b ∧ Q (.bl b) H
def rIsXT (K : PySem.W.Frag) (a : Addr) (cls : Value) (d : Option Addr) : List V → Hp → VK → Prop := fun xs H Q => ∃ (tp : Addr) (cs : List V) (us : List Value) (b : Bool), xs = [.ref a, .ref tp] ∧ KnX K cls d H ∧ H tp = some (.tup cs) ∧ Paired ClsV cs us ∧ PySem.W.kitAny K cls us = some b ∧ Q (.bl b) H
def uIsX (K : PySem.W.Frag) (a : Addr) (cls : Value) (d : Option Addr) : List V → Hp → VK → Prop := fun xs H Q => rIsX K a cls d xs H Q ∨ rIsXT K a cls d xs H Q
def tXg (K : PySem.W.Frag) (a : Addr) (cls : Value) (d : Option Addr) (n : Str) (te : TE) : TE := fun σ H Q => te σ H fun x H1 => x = .ref a ∧ ∃ D dd fs v, cls = .ref D ∧ ExcC K D ∧ PySem.W.findIn K (.ref D) n = some none ∧ d = some dd ∧ H1 dd = some (.xd fs) ∧ fs.lookup n = some v ∧ Q v H1
section
variable {X : Cx} {a D : Addr} {oe : Obj} {cls : Value} {d : Option Addr}
theorem inst_at {pins : List (Addr × Obj)} {σ : L2.St} {H : Hp} {s : Shared} (hp : (a, oe) ∈ X.pn) (hz : Zc (.ref D) d oe) (hf : ∃ vs, oe.data = .fields vs) (I : Inv X pins σ H s) (hd : d = none ∨ ∃ dd fs, d = some dd ∧ H dd = some (.xd fs)) :
    ∃ od, PySem.W.InstAt s.heap a oe D od := by
  obtain ⟨ha, _⟩ := I.pin (a, oe) (List.mem_append_left _ hp)
  obtain ⟨vs, hv⟩ := hf
  have nc : PySem.W.notCls oe = true := by
    unfold PySem.W.notCls
    rw [hv] <;> rfl
  rcases hd with rfl | ⟨dd, fs, rfl, e⟩
  · exact ⟨none, ha, hz.1, nc, by rw [hz.2]; trivial⟩
  · obtain ⟨mA, ⟨o, es, ep, e1, e2⟩, hr⟩ := (show ObjOk X.prog X.w H s.heap dd (.xd fs) from I.hok dd _ e)
    exact ⟨some o, ha, hz.1, nc, by rw [hz.2]; exact e1⟩
theorem kit_exc {K : PySem.W.Frag} {od : Option Obj} (C : ExcC K D) : PySem.W.KitX K (.ref a) (.ref D) (fun h => PySem.W.InstAt h a oe D od) :=
  PySem.W.kitx_exc (by obtain ⟨cd, hc, _⟩ := PySem.W.any_some C.hd; rw [hc]; rfl) C.hg C.hk C.hs C.ha C.hn C.ht C.hm
theorem cr_isX (hp : (a, oe) ∈ X.pn) (hz : Zc cls d oe) (hf : ∃ vs, oe.data = .fields vs) : CallR X (.builtin "isinstance") (uIsX X.K a cls d) := by
  intro pins s σ H xs us Q I r h
  rcases h with ⟨c, cv, b, rfl, ⟨D, rfl, C, hd⟩, k, e, q⟩ | ⟨tp, cs, ws, b, rfl, ⟨D, rfl, C, hd⟩, hT, k, e, q⟩
  · obtain ⟨u1, u2, rfl, r1, r2⟩ := vals2 r
    cases (show u1 = Value.ref a from r1)
    cases k.eq r2
    obtain ⟨od, J⟩ := inst_at hp hz hf I hd
    exact PySem.W.kia_one (kit_exc C) I.kIn J e (fun z => nomatch z) fun tk => ⟨.bl b, H, I.tok tk, rfl, q⟩
  · obtain ⟨u1, u2, rfl, r1, r2⟩ := vals2 r
    cases (show u1 = Value.ref a from r1)
    cases (show u2 = Value.ref tp from r2)
    obtain ⟨od, J⟩ := inst_at hp hz hf I hd
    obtain ⟨_, its, rv, o, h1, h2, n, h3⟩ := (show ObjOk X.prog X.w H s.heap tp (.tup cs) from I.hok tp _ hT)
    cases ClsV.all k rv
    obtain ⟨oc, od2, dt, sl⟩ := o
    simp only at h2 h3
    subst h2 h3
    exact PySem.W.kia_tup (kit_exc C) I.kIn J h1 e (fun z => nomatch z) fun tk => ⟨.bl b, H, I.tok tk, rfl, q⟩
theorem pe_xg {e : Expr} {te : TE} {pos : Pos} {n : Str} (hp : (a, oe) ∈ X.pn) (hz : Zc cls d oe) (hf : ∃ vs, oe.data = .fields vs) (he : PE X e te) (hb : attributeBase e n X.env (eval e X.env) = eval e X.env := by rfl) :
    PE X (.Attribute e n pos) (tXg X.K a cls d n te) := by
  constructor
  intro pins s σ H Q I h
  refine attr_of hb (thn (he.run pins s σ H _ I h) ?_)
  rintro u s1 ⟨x, H1, I1, rx, rfl, D, dd, fs, v, rfl, C, hno, rfl, ea, l, q⟩
  cases (show u = Value.ref a from rx)
  obtain ⟨ha, _⟩ := I1.pin (a, oe) (List.mem_append_left _ hp)
  obtain ⟨vs, hv⟩ := hf
  obtain ⟨mA, hns, hr⟩ := (show ObjOk X.prog X.w H1 s1.heap dd (.xd fs) from I1.hok dd _ ea)
  obtain ⟨od, ho, hl⟩ := lookIn_ns hns
  obtain ⟨u, hu, ru⟩ := RelO.some_of (v := v) (o := mA n) (by rw [← l]; exact hr n)
  have nc : PySem.W.notCls oe = true := by
    unfold PySem.W.notCls
    rw [hv] <;> rfl
  have J : PySem.W.InstAt s1.heap a oe D (some od) := ⟨ha, hz.1, nc, by rw [hz.2]; exact ho⟩
  exact HandSPX.exc_get I1.kIn J C.hg C.hk C.hs (PySem.W.findObj_own C.hd hno rfl (by rw [hl, hu])) (handed_of ru) ⟨v, H1, I1.tok _, ru, q⟩
end
/-! ### a def that is handed the exception in a suite -/
structure FnE (P : Program) (w : World) (K : PySem.W.Frag) (mg : Str → Option Value) (base : Heap) (k : Nat) (f : Addr) (fd : FuncData) (x : Str) (sp : Addr → Value → Option Addr → Hp → VK → Prop) : Prop where
  run : ∀ (A : Around) (outer : List Env) (s : Shared) (H : Hp) (args : Args) (Q : VK) (a : Addr) (oe : Obj) (cls : Value) (d : Option Addr), L2H.RoomH k A → Zc cls d oe → (∃ vs, oe.data = .fields vs) → L2H.PinOk outer H s (a, oe) → Env0 P w K mg base A outer s H →
    BindsTo s fd args [(x, .ref a)] → sp a cls d H Q → codeAny (model P w) A (.call (.ref f) args) (CR CX0 outer P w H s Q E0) s
theorem okE {P : Program} {w : World} {K : PySem.W.Frag} {mg : Str → Option Value} {base : Heap} {k : Nat} {f : Addr} {fd : FuncData} {x xq qual : Str} {params : Arguments} {body : List Stmt} {scope : Scope} {dvs : List V} {kws : List (Str × V)} {N : List Str}
    {sp : Addr → Value → Option Addr → Hp → VK → Prop} (D : FunD K xq qual params body scope dvs kws f fd) (S : FnScope N [x] scope)
    (hbody : ∀ (cdv : Value) (B : Around) (out : List Env) (t : Shared) (H : Hp) (Q : VK) (a : Addr) (oe : Obj) (cls : Value) (d : Option Addr), L2H.RoomH k (B.deeper (envOfC qual scope t.heap.objs.size f cdv)) → Zc cls d oe → (∃ vs, oe.data = .fields vs) → sp a cls d H Q →
      ∃ tr, PSs (L2H.cxH CX0 P w K mg base N qual scope f cdv B out t H E0 (a, oe)) body tr ∧ tr { nx := fun _ H' => Q .non H', rt := Q } (L2.start N [.ref a]) H) :
    FnE P w K mg base (k + 1) f fd x sp := by
  obtain ⟨⟨oc, od, dV, kV, doc, pm, an, cdv, ct, osl, rfl, lk, hcd, _, _⟩, _⟩ := D
  constructor
  intro A outer s H args Q a oe cls d hr hz hf hpin env hb hsp
  have hin : K.In s.heap := env.mod.kin.keeps fun b o q => (env.bs b o q).1
  have hno : s.heap.NoLimit := env.mod.nolimit.keeps fun b o q => (env.bs b o q).1
  have hk : ∀ y ∈ [x].zip [Value.ref a], scope.names.lookup y.1 = some .local ∨ (scope.names.lookup y.1 = some .cell ∧ ((cellsFrom (s.heap.objs.size + 1) scope.names []).lookup y.1).isSome = true) := by
    rintro ⟨n, v⟩ hy
    cases S.par n (List.of_mem_zip hy).1 with
    | inl q => exact .inl q
    | inr q => exact .inr ⟨q, PySem.W.cellsFrom_some _ _ _ (.inl q)⟩
  refine codeAny_call_function hr.depth (hin _ _ lk) rfl S.co S.gen rfl (PySem.W.codeRec_of hin hcd) (hb _ _ _ _ ?_)
  refine wpAny_newFunctionEnv_cells S.kind hk fun ev hev t1 ic => ?_
  subst hev
  refine ⟨hno.keeps ic.toInCall.keep, codeAny_func ?_⟩
  obtain ⟨tr, htr, hq⟩ := hbody cdv A outer s H Q a oe cls d (hr.deeper _) hz hf hsp
  have J : Inv (L2H.cxH CX0 P w K mg base N qual scope f cdv A outer s H E0 (a, oe)) [] (L2.start N [.ref a]) H t1 := L2H.inv_startH (us := [.ref a]) S hpin env rfl (.cons rfl .nil) ic
  refine wpAny_mono (htr.run [] t1 _ H _ J hq) (fun fl t2 z => ?_) fun _ _ z => z
  match fl, z with
  | .next, ⟨s2, H2, J2, q2⟩ => exact ⟨V.non, H2, J2.os, J2.bare, J2.base, J2.hok, rfl, q2⟩
  | .ret u, ⟨v2, s2, H2, J2, r2, q2⟩ => exact ⟨v2, H2, J2.os, J2.bare, J2.base, J2.hok, r2, q2⟩
  | .brk, ⟨_, _, _, q2⟩ => cases q2
  | .cont, ⟨_, _, _, q2⟩ => cases q2
/-- f(e), e the exception that is held -/
def tCallE (a : Addr) (cls : Value) (d : Option Addr) (sp : Addr → Value → Option Addr → Hp → VK → Prop) (te : TE) : TE := fun σ H Q => te σ H fun x H1 => x = .ref a ∧ sp a cls d H1 Q
theorem pe_callE {X : Cx} {a f : Addr} {oe : Obj} {cls : Value} {d : Option Addr} {k : Nat} {fd : FuncData} {x px : Str} {sp : Addr → Value → Option Addr → Hp → VK → Prop} {e : Expr} {te : TE} {p pos : Pos} (F : FnE X.prog X.w X.K X.mg X.base k f fd px sp) (hp : (a, oe) ∈ X.pn) (hz : Zc cls d oe)
    (hf : ∃ vs, oe.data = .fields vs) (hr : L2H.RoomH k X.A) (hg : Gl X x) (hm : X.mg x = some (.ref f)) (hk : PySem.W.keepIn X.K (.ref f) = true) (hb : Binds X.K fd [px] []) (ha : PE X e te)
    (hdb : (x == ("__debug__" : Str)) = false := by decide) (he : starEach [e] X.env = (false, eval e X.env) :: starEach [] X.env := by rfl) : PE X (.Call (.Name x p) [e] [] pos) (tCallE a cls d sp te) := by
  constructor
  intro pins s σ H Q I h
  refine wpAny_Call_Name_kw (ld_glob I hg hm ?_ hdb)
  have pa := pa_cons (PE.wk ha) (pa_nil (X := X)) he
  have body := thn (pa.run pos pins s σ H (fun vs H1 => vs = [.ref a] ∧ sp a cls d H1 Q) I ⟨_, h, fun v H1 z => ⟨by rw [z.1], z.2⟩⟩) (Q' := fun us s1 => X.K.In s1.heap ∧ wpAny (model X.prog X.w) X.A (call (.ref f) us) (EP X pins σ Q) X.xe s1) ?_
  · exact PySem.W.callWith_K (h₀ := X.base) I.ok.mod.kin hk body he rfl
  rintro us s1 ⟨vs, H1, I1, r1, rfl, q1⟩
  refine ⟨I1.kIn, ?_⟩
  obtain ⟨u, rfl, ru⟩ := vals1 r1
  cases (show u = Value.ref a from ru)
  have P1 := I1.pin (a, oe) (List.mem_append_left _ hp)
  have hpin : L2H.PinOk X.stack H1 s1 (a, oe) := ⟨P1.1, P1.2.1, fun hm => (List.mem_cons.mp (I1.stkSub a hm)).elim P1.2.2.1 P1.2.2.2.1, P1.2.2.2.2⟩
  have bb := hb s1 [.ref a] I1.kIn rfl
  have go := F.run X.A X.stack s1 H1 ⟨[.ref a], []⟩ Q a oe cls d hr hz hf hpin I1.env0 bb q1
  refine wpAny_call (codeAny_mono go fun r s' hq => ?_)
  match r, hq with
  | .error _, hq => exact hq.elim
  | .ok (.ret u), hq => exact I1.after hq
  | .ok .next, hq => cases hq
  | .ok .brk, hq => cases hq
  | .ok .cont, hq => cases hq
/-! ### the head's facts, any -/
def startsAt (g : Addr → Option Obj) : Nat → List Addr
  | 0 => [mainGlobals, cStatics]
  | n + 1 => He.growD g (startsAt g n)
def obsF (fa : List (PySem.W.Frag → Bool)) (fn : List He.DefD) (K : PySem.W.Frag) : He.AlD := ((fa.all fun f => f K) && fn.all fun d => d.ok K, fn.map fun d => He.fnW K d.at_)
def SaysF (fa : List (PySem.W.Frag → Bool)) (fn : List He.DefD) (K : PySem.W.Frag) : Prop := obsF fa fn K = He.valD fn
def obsFG (n : Nat) (fa : List (PySem.W.Frag → Bool)) (fn : List He.DefD) (g : Addr → Option Obj) : He.AlD := obsF fa fn (He.frG g (startsAt g n))
def hookF (n : Nat) (fa : List (PySem.W.Frag → Bool)) (fn : List He.DefD) : PySem.W.Hook where
  α := He.AlD
  obs := fun s => obsFG n fa fn s.heap.get?
  val := fun _ => He.valD fn
  says := fun _ h => ∃ K : PySem.W.Frag, K.In h ∧ SaysF fa fn K
  of := fun _ _ e => ⟨_, He.frG_in, e⟩
  keeps := fun _ _ _ ⟨K, hK, c⟩ k => ⟨K, PySem.W.Frag.In.keeps hK k, c⟩
theorem obsFG_eq {n : Nat} {fa : List (PySem.W.Frag → Bool)} {fn : List He.DefD} {g : Addr → Option Obj} {s : Shared} (h : ∀ a, g a = s.heap.get? a) : obsFG n fa fn g = (hookF n fa fn).obs s := by
  have e : g = s.heap.get? := funext h
  rw [e] <;> rfl
section
variable {fa : List (PySem.W.Frag → Bool)} {fn : List He.DefD} {K : PySem.W.Frag}
theorem SaysF.fact (c : SaysF fa fn K) (i : Nat) {f : PySem.W.Frag → Bool} (h : fa[i]? = some f := by rfl) : f K = true := by
  have c1 : ((fa.all fun f => f K) && fn.all fun d => d.ok K) = true := congrArg (fun z : He.AlD => z.1) c
  exact List.all_eq_true.mp (Bool.and_eq_true_iff.mp c1).1 f (List.mem_of_getElem? h)
theorem SaysF.def_ (c : SaysF fa fn K) (i : Nat) {d : He.DefD} (h : fn[i]? = some d := by rfl) : ∃ fd, FunD K d.name d.qual d.params d.body d.scope (d.dvs K) (d.kws K) (He.fAd K d.at_) fd := by
  have c1 : ((fa.all fun f => f K) && fn.all fun d => d.ok K) = true := congrArg (fun z : He.AlD => z.1) c
  have e : fn.map (fun d => He.fnW K d.at_) = fn.map He.DefD.val := congrArg (fun z : He.AlD => z.2) c
  have e2 : (fn.map fun d => He.fnW K d.at_)[i]? = (fn.map He.DefD.val)[i]? := by rw [e]
  rw [List.getElem?_map, List.getElem?_map, h] at e2
  exact He.DefD.funD (Option.some.inj e2) (List.all_eq_true.mp (Bool.and_eq_true_iff.mp c1).2 d (List.mem_of_getElem? h))
end
end RC

theorem L2H.RoomH.units {k : Nat} {A : PySem.Around} (r : L2H.RoomH k A) : A.units + 64 < PySem.cLine := by
  have := r.un
  omega
theorem L2H.RoomH.u65 {k : Nat} {A : PySem.Around} (r : L2H.RoomH k A) : A.units + 65 < PySem.cLine := by
  have := r.un
  omega
theorem L2H.RoomH.u1 {k : Nat} {A : PySem.Around} (r : L2H.RoomH k A) : A.units + 1 < PySem.cLine := by
  have := r.un
  omega
theorem L2.Room.u65 {k : Nat} {A : PySem.Around} (r : L2.Room k A) : A.units + 65 < PySem.cLine := by
  have := r.un
  omega
theorem L2.Room.u1 {k : Nat} {A : PySem.Around} (r : L2.Room k A) : A.units + 1 < PySem.cLine := by
  have := r.un
  omega
namespace RC
open PySem PySem.Spec PyProof.Rows L2
/-- no wish -/
def W0 : WX := fun _ _ _ _ => False
abbrev WT (E : XK) : WX := fun cls d _ H => E cls d H
theorem tk0 {X : Cx} : Takes X W0 := takes_none5
/-- a def that may raise -/
theorem okW {g : Bool} {P : Program} {w : World} {K : PySem.W.Frag} {mg : Str → Option Value} {base : Heap} {k : Nat} {f : Addr} {fd : FuncData} {ps : List Str} {sp : Sp} {x qual : Str} {params : Arguments} {body : List Stmt} {scope : Scope} {dvs : List V} {kws : List (Str × V)} {N : List Str}
    (D : FunD K x qual params body scope dvs kws f fd) (S : FnScope N ps scope) (hlen : ∀ vs H Q E, sp vs H Q E → vs.length = ps.length)
    (hbody : ∀ (cdv : Value) (B : Around) (out : List Env) (t : Shared) (H : Hp) (vs : List V) (Q : VK) (E : XK), (g = true → B.guards = some []) → Room k (B.deeper (envOfC qual scope t.heap.objs.size f cdv)) → sp vs H Q E →
      Takes (cxOf (L2.CX P w) P w K mg base N qual scope f cdv B out t H E) (WT E) → PassesOwn (model P w) (cxOf (L2.CX P w) P w K mg base N qual scope f cdv B out t H E).A (cxOf (L2.CX P w) P w K mg base N qual scope f cdv B out t H E).env (cxOf (L2.CX P w) P w K mg base N qual scope f cdv B out t H E).xe →
      ∃ tr, PSs (cxOf (L2.CX P w) P w K mg base N qual scope f cdv B out t H E) body tr ∧ tr { nx := fun _ H' => Q .non H', rt := Q } (L2.start N vs) H) :
    FnX g P w K mg base (L2.CX P w) (k + 1) f fd ps sp :=
  okX D S hlen fun cdv B out t H vs Q E hg hr hs => hbody cdv B out t H vs Q E hg hr hs (takes_of rfl rfl rfl rfl) (passes_of rfl)
section
variable {X : Cx}
theorem uo_inU (hu : X.A.units + 65 < cLine) : OpR X (compareOp .In) (uIn X.K) := op_in_seq.or ((op_inD hu).or ((op_din (by omega)).or op_in_str))
theorem uo_notinU (hu : X.A.units + 65 < cLine) : OpR X (compareOp .NotIn) (uNotIn X.K) := op_notIn_seq.or ((op_notInD hu).or ((op_dnotin (by omega)).or op_notin_str))
/-- d[k] by values -/
def rIxK : R2 := fun x y H Q => ∃ a v, x = .ref a ∧ DGet H a y (some v) ∧ Q v H
theorem ix_dk (hu : X.A.units + 1 < cLine) : IxR X rIxK := by
  intro value slice pins s σ H x y v u Q I rx ry h hs
  obtain ⟨a, r, rfl, hd, q⟩ := h
  cases (show v = Value.ref a from rx)
  exact tail_any (dict_typeIs I hd) PySem.F.slot_dict_getitem.lookup (d_getItem hu I hd ry fun w' s3 I3 rw' => ⟨r, H, I3, rw', q⟩) hs
def uIy (K : PySem.W.Frag) : R2 := fun x y H Q => rIx K x y H Q ∨ rIxK x y H Q
theorem ix_any2 (hu : X.A.units + 1 < cLine) : IxR X (uIy X.K) := ix_seq.or (ix_dk hu)
/-- xs.count(y), flat items -/
def rCntV (K : PySem.W.Frag) : V → List V → Hp → VK → Prop := fun x xs H Q => ∃ (a : Addr) (ys : List V) (y : V), x = V.ref a ∧ xs = [y] ∧ SqL K H a ys ∧ flatV y = true ∧ ys.all flatV = true ∧ Q (.int ((ys.countP fun z => eqV z y) : Nat)) H
theorem countP_vals {y : V} : ∀ {ys : List V} {its : List Value}, Vals ys its → ys.all flatV = true → its.countP (eqU y) = ys.countP fun z => eqV z y
  | _, _, .nil, _ => rfl
  | _, _, .cons r t, h => by
    rw [List.all_cons, Bool.and_eq_true] at h
    rw [List.countP_cons, List.countP_cons, countP_vals t h.2, eqU_of r h.1]
theorem mt_countV : MtR X "list.count" (rCntV X.K) := by
  intro pins s σ H x xs v us Q I rx rxs h
  obtain ⟨a, ys, y, rfl, rfl, hs, fy, fys, q⟩ := h
  cases rx
  obtain ⟨u, rfl, ru⟩ := rxs.one
  obtain ⟨its, rv, ⟨⟨cls, dd, data, sl⟩, n, ho, hc, hdn, hd⟩, hlen⟩ := I.list hs
  simp only at hc hd
  subst hc hd
  refine call_meets PySem.F.slot_list_count ⟨_, ho, rfl⟩ PySem.F.entry_list_count (PySem.F.args_list_count_2 _ _)
    (SeqAt.list_countAt a its.toArray n dd sl u (eqU y)) ⟨ho, fun u' hu' => mem_eqAt ru fy rv fys u' (by simpa using hu'), ?_⟩
  refine ⟨.int _, H, I.tok _, ⟨s.toks, ?_⟩, q⟩
  have e : its.toArray.toList.countP (eqU y) = ys.countP fun z => eqV z y := countP_vals rv fys
  rw [e]
/-- len(o) by an own __len__ -/
def rLenI (C : Addr) (sp : Sp) : List V → Hp → VK → Prop := fun xs H Q => ∃ a dx fs, xs = [.ref a] ∧ H a = some (.ins C dx fs) ∧ sp [.ref a] H (fun v H' => ∃ n : Int, v = .int n ∧ 0 ≤ n ∧ n < 2 ^ 63 ∧ Q (.int n) H') E0
theorem cr_lenI {C f : Addr} {k : Nat} {fd : FuncData} {ps : List Str} {sp : Sp} (hm : Meth X.K C "__len__" f) (F : FnX false X.prog X.w X.K X.mg X.base CX0 k f fd ps sp) (hr : Room (k + 1) X.A) (hb : Binds X.K fd ps []) : CallR X (.builtin "len") (rLenI C sp) := by
  intro pins s σ H xs us Q I r h
  obtain ⟨a, dx, fs, rfl, ea, q⟩ := h
  obtain ⟨u, rfl, ru⟩ := vals1 r
  cases (show u = Value.ref a from ru)
  obtain ⟨m, fr⟩ := I.fr
  obtain ⟨mA, O, _⟩ := ins_get I.hok ea
  obtain ⟨od, J, _⟩ := O.look
  refine PySem.W.len_K fr I.ok.mod.kin J hm.at_ hm.fn ?_
  have ll : ([Value.ref a] ++ []).length = ps.length := (F.lenG _ _ _ _ q).symm ▸ rfl
  have bb := hb s [.ref a] I.kIn ll
  have go := F.runG X.A.in1 X.stack s H ⟨[.ref a], []⟩ _ [.ref a] [.ref a] _ _ (fun z => nomatch z) hr.in1 I.env0.in1 bb (.refl _) (.cons rfl .nil) q
  refine wpAny_call (codeAny_mono go fun res s' hq => ?_)
  match res, hq with
  | .error _, hq => exact hq.elim
  | .ok (.ret u), hq =>
    obtain ⟨v, H', I', rv, n, rfl, h0, h1, q'⟩ := I.after hq
    obtain ⟨t, rfl⟩ := rv
    exact ⟨⟨h0, h1⟩, ⟨.int n, H', I'.tok _, ⟨_, rfl⟩, q'⟩⟩
  | .ok .next, hq => cases hq
  | .ok .brk, hq => cases hq
  | .ok .cont, hq => cases hq
end
def clsB : Stmt → List Stmt
  | .ClassDef _ _ _ body _ _ _ _ _ _ _ => body
  | _ => []
/-! ### checks of the head's part -/
abbrev mA (K : PySem.W.Frag) (c m : Str) : Addr := He.ma K (He.ga K c) m
def chB (K : PySem.W.Frag) (x : Str) (bmB : List Value) (newId : String) : Bool := PySem.W.excInitIn K (He.ga K x) bmB newId && (PySem.W.excOver K (He.ga K x) bmB && (PySem.W.hasDictIn K (He.ga K x) && (He.eqO (PySem.W.findIn K (.ref (He.ga K x)) "__setattr__") (some (some (.builtin "object.__setattr__"))) &&
  (decide (PySem.W.subIn K (.ref (He.ga K x)) (.type "BaseException") = some true) && (decide (PySem.W.typeIn K (.ref (He.ga K x)) = some (.type "type")) && PySem.W.keepIn K (.ref (He.ga K x)))))))
theorem chB_ok {K : PySem.W.Frag} {x : Str} {B newId initId : String} {bmB : List Value} (fb : ExcBaseFacts B newId initId bmB) (sf : StoreFacts B bmB "object.__setattr__" "object") (h : chB K x bmB newId = true) : XcB K (He.ga K x) B newId initId bmB := by
  obtain ⟨h1, h⟩ := He.ba h
  obtain ⟨h2, h⟩ := He.ba h
  obtain ⟨h3, h⟩ := He.ba h
  obtain ⟨h4, h⟩ := He.ba h
  obtain ⟨h5, h⟩ := He.ba h
  obtain ⟨h6, h7⟩ := He.ba h
  exact ⟨fb, sf, h1, h2, h3, He.eqO_ok h4, of_decide_eq_true h5, of_decide_eq_true h6, h7⟩
abbrev tlB (B : String) : List Value := [.type B, .type "Exception", .type "BaseException", .type "object"]
theorem chB_VE {K : PySem.W.Frag} {x : Str} (h : chB K x (tlB "ValueError") "ValueError.__new__" = true) : XcB K (He.ga K x) "ValueError" "ValueError.__new__" "ValueError.__init__" (tlB "ValueError") := chB_ok PySem.F.excBase_ValueError PySem.F.store_ValueError h
theorem chB_LE {K : PySem.W.Frag} {x : Str} (h : chB K x (tlB "LookupError") "LookupError.__new__" = true) : XcB K (He.ga K x) "LookupError" "LookupError.__new__" "LookupError.__init__" (tlB "LookupError") := chB_ok PySem.F.excBase_LookupError PySem.F.store_LookupError h
theorem chB_RE {K : PySem.W.Frag} {x : Str} (h : chB K x (tlB "RuntimeError") "RuntimeError.__new__" = true) : XcB K (He.ga K x) "RuntimeError" "RuntimeError.__new__" "RuntimeError.__init__" (tlB "RuntimeError") := chB_ok PySem.F.excBase_RuntimeError PySem.F.store_RuntimeError h
def chI (K : PySem.W.Frag) (x : Str) (initId : String) : Bool := He.eqO (PySem.W.specialIn K (.ref (He.ga K x)) "__getattribute__") (some (some (.builtin "type.__getattribute__"))) && (decide (PySem.W.typeIn K (.ref (He.ga K x)) = some (.type "type")) && (PySem.W.readsIn K (He.ga K x) (.type "type") &&
  (match PySem.W.findCls K (.ref (He.ga K x)) (.type "type") "__init__" with
    | some (.val (.builtin n)) => decide (n = initId)
    | _ => false)))
theorem chI_ok {K : PySem.W.Frag} {x : Str} {initId : String} (h : chI K x initId = true) : XcI K (He.ga K x) initId := by
  obtain ⟨h1, h⟩ := He.ba h
  obtain ⟨h2, h⟩ := He.ba h
  obtain ⟨h3, h4⟩ := He.ba h
  refine ⟨He.eqO_ok h1, of_decide_eq_true h2, h3, ?_⟩
  split at h4
  · rename_i n e
    rw [e, of_decide_eq_true h4]
  · cases h4
def chC (K : PySem.W.Frag) (x : Str) : Bool := He.eqO (PySem.W.findIn K (.ref (He.ga K x)) "__getattribute__") (some (some (.builtin "BaseException.__getattribute__"))) && (He.eqO (PySem.W.findIn K (.ref (He.ga K x)) "__getattr__") (some none) &&
  (decide (PySem.W.subIn K (.ref (He.ga K x)) (.type "BaseException") = some true) && (PySem.W.hasDictIn K (He.ga K x) && (He.eqO (PySem.W.findIn K (.ref (He.ga K x)) "__class__") (some (some (.builtin "object.__class__"))) &&
  (He.eqO (PySem.W.specialIn K (.builtin "object.__class__") "__get__") (some (some (.builtin "getset_descriptor.__get__"))) && (decide (PySem.W.takesIn K (.builtin "object.__class__") = some true) && decide (PySem.W.mroIn K (He.ga K x) (.type "object") = some true)))))))
theorem chC_ok {K : PySem.W.Frag} {x : Str} (h : chC K x = true) : ExcC K (He.ga K x) := by
  obtain ⟨h1, h⟩ := He.ba h
  obtain ⟨h2, h⟩ := He.ba h
  obtain ⟨h3, h⟩ := He.ba h
  obtain ⟨h4, h⟩ := He.ba h
  obtain ⟨h5, h⟩ := He.ba h
  obtain ⟨h6, h⟩ := He.ba h
  obtain ⟨h7, h8⟩ := He.ba h
  exact ⟨He.eqO_ok h1, He.eqO_ok h2, of_decide_eq_true h3, h4, He.eqO_ok h5, He.eqO_ok h6, of_decide_eq_true h7, of_decide_eq_true h8⟩
def chN (K : PySem.W.Frag) (x f : Str) : Bool := He.eqO (PySem.W.findIn K (.ref (He.ga K x)) f) (some none)
theorem chN_ok {K : PySem.W.Frag} {x f : Str} (h : chN K x f = true) : PySem.W.findIn K (.ref (He.ga K x)) f = some none := He.eqO_ok h
def chF (K : PySem.W.Frag) (x : Str) : Bool := He.eqO (PySem.W.findIn K (.ref (He.ga K x)) "__init__") (some (some (.ref (mA K x "__init__")))) && decide (PySem.W.typeIn K (.ref (mA K x "__init__")) = some (.type "function"))
theorem chF_ok {K : PySem.W.Frag} {x : Str} (h : chF K x = true) : PySem.W.findIn K (.ref (He.ga K x)) "__init__" = some (some (.ref (mA K x "__init__"))) ∧ PySem.W.typeIn K (.ref (mA K x "__init__")) = some (.type "function") := ⟨He.eqO_ok (He.ba h).1, of_decide_eq_true (He.ba h).2⟩
def chM (K : PySem.W.Frag) (x y : Str) (b : Bool) : Bool := decide (PySem.W.exmOne K (.ref (He.ga K x)) (.ref (He.ga K y)) = some b)
theorem chM_ok {K : PySem.W.Frag} {x y : Str} {b : Bool} (h : chM K x y b = true) : PySem.W.exmOne K (.ref (He.ga K x)) (.ref (He.ga K y)) = some b := of_decide_eq_true h
def chK (K : PySem.W.Frag) (x y : Str) (b : Bool) : Bool := decide (PySem.W.kitOne K (.ref (He.ga K x)) (.ref (He.ga K y)) = some b)
theorem chK_ok {K : PySem.W.Frag} {x y : Str} {b : Bool} (h : chK K x y b = true) : PySem.W.kitOne K (.ref (He.ga K x)) (.ref (He.ga K y)) = some b := of_decide_eq_true h
def chT (K : PySem.W.Frag) (x : Str) (y : String) (b : Bool) : Bool := decide (PySem.W.kitOne K (.ref (He.ga K x)) (.type y) = some b)
theorem chT_ok {K : PySem.W.Frag} {x : Str} {y : String} {b : Bool} (h : chT K x y b = true) : PySem.W.kitOne K (.ref (He.ga K x)) (.type y) = some b := of_decide_eq_true h
theorem exm_cons {K : PySem.W.Frag} {cls c : Value} {cs : List Value} {b d : Bool} (h : PySem.W.exmOne K cls c = some b) (h2 : PySem.W.exmAny K cls cs = some d) : PySem.W.exmAny K cls (c :: cs) = some (b || d) := by
  unfold PySem.W.exmAny
  rw [h, h2]
/-! ### more -/
theorem pasF {X : Cx} {σ : L2.St} : PassesAt (L2.CX X.prog X.w) X σ (WE W0 σ) := fun _ _ _ _ _ _ ⟨_, _, _, _, _, _, _, _, _, _, _, _, z⟩ => z.elim
def tTry (K : PySem.W.Frag) (W : WX) (tb : WX → TS) (l : List Hd) : TS := fun D σ H => tb (wTry K W D l) D σ H
theorem ps_tryT {X : Cx} {body : List Stmt} {h₀ : ExceptHandler} {hds : List ExceptHandler} {l : List Hd} {pos : Pos} {tb : WX → TS} {W : WX} (hs : X.stack = X.env :: X.outer) (hf : X.env.frame = some X.env.locals) (hN : X.N.Nodup) (tk : Takes X W)
    (hb : ∀ (W' : WX) (pn : List (Addr × Obj)) (xe : Value → Shared → Prop), Takes (X.tr pn xe) W' → PassesOwn (model X.prog X.w) X.A X.env xe → PSs (X.tr pn xe) body (tb W'))
    (hh : HdOk X (h₀ :: hds) l) : PS X (.Try body (h₀ :: hds) [] [] pos) (tTry X.K W tb l) := ps_tryG hs hf hN tk hb hh
theorem roomMark {k : Nat} {A : Around} {h : Option Value} (r : Room k A) : L2H.RoomH k (A.mark h) := ⟨r.dp, r.un⟩
def rSortDI : List V → Hp → VK → Prop := fun xs H Q => ∃ (a : Addr) (kvs : List (Key × V)) (ks : List Int), xs = [.ref a] ∧ Rd H a (.dK kvs) ∧ kvs.map (·.1) = ks.map Sum.inl ∧ ks.length < 64 ∧
  ∀ (ys : List Int) (p : Addr), ys.Perm ks → ys.Pairwise (· ≤ ·) → H p = none → Q (.ref p) (upd H p (.lst (ys.map V.int)))
theorem cr_sortedDI {X : Cx} (h : X.calm = true) : CallR X (.builtin "sorted") rSortDI := call_sortedDI h
def rDictD : List V → Hp → VK → Prop := fun xs H Q => ∃ (a : Addr) (kvs : List (Key × V)), xs = [.ref a] ∧ Rd H a (.dK kvs) ∧ ∀ p, H p = none → Q (.ref p) (upd H p (.dK kvs))
theorem cr_dictD {X : Cx} : CallR X (.type "dict") rDictD := call_dictD
end RC

namespace RC
open PySem PySem.Spec PyProof.Rows L2
section
variable {K : PySem.W.Frag} {σ : L2.St} {H : Hp} {Q : VK} {D : Ends} {Rs : List Res} {E : XK} {W : WX} {sp : Sp} {dvs : List V} {t : TA} {ta te tb tc : TE} {C a : Addr} {m f : Str} {v : V}
theorem g_callW (k : t σ H fun vs H1 => sp (vs ++ dvs) H1 Q (WE W σ)) : tCallW W sp dvs t σ H Q := k
def MethK (W : WX) (C : Addr) (m : Str) (sp : Sp) (dvs : List V) (t : TA) (σ : L2.St) (Q : VK) : VK := fun x H1 => ∃ a dx fs, x = .ref a ∧ H1 a = some (.ins C dx fs) ∧ fs.lookup m = none ∧ t σ H1 fun vs H2 => sp (x :: (vs ++ dvs)) H2 Q (WE W σ)
theorem g_meth (k : ta σ H (MethK W C m sp dvs t σ Q)) : tMethW W C m sp dvs ta t σ H Q := k
theorem v_meth {dx : Addr} {fs : List (Str × V)} (h : H a = some (.ins C dx fs)) (l : fs.lookup m = none) (k : t σ H fun vs H2 => sp (.ref a :: (vs ++ dvs)) H2 Q (WE W σ)) : MethK W C m sp dvs t σ Q (.ref a) H := ⟨a, dx, fs, rfl, h, l, k⟩
def MakeK (W : WX) (C : Addr) (sp : Sp) (dvs : List V) (σ : L2.St) (Q : VK) : List V → Hp → Prop := fun vs H1 => ∀ x dx, H1 x = none → H1 dx = none → dx ≠ x → sp (.ref x :: (vs ++ dvs)) (upd (upd H1 dx (.own x)) x (.ins C dx [])) (fun v H2 => v = .non ∧ Q (.ref x) H2) (WE W σ)
theorem g_make (k : t σ H (MakeK W C sp dvs σ Q)) : tMakeW W C sp dvs t σ H Q := k
theorem v_make {vs : List V} (S : M Rs H) (k : ∀ x dx H', M (pt x (.ins C dx []) :: pt dx (.own x) :: Rs) H' → sp (.ref x :: (vs ++ dvs)) H' (fun v H2 => v = .non ∧ Q (.ref x) H2) (WE W σ)) : MakeK W C sp dvs σ Q vs H := by
  intro x dx hx hdx hne
  exact k x dx _ ((S.new hdx).new (by rw [upd_ne (fun z => hne z.symm)]; exact hx))
def FldK (K : PySem.W.Frag) (f : Str) (Q : VK) : VK := fun x H1 => ∃ a C dx fs v, x = .ref a ∧ H1 a = some (.ins C dx fs) ∧ Cls K C ∧ NoAttr K C f ∧ fs.lookup f = some v ∧ Q v H1
theorem g_fld (k : ta σ H (FldK K f Q)) : tFld K ta f σ H Q := k
theorem v_fld {dx : Addr} {fs : List (Str × V)} (h : H a = some (.ins C dx fs)) (c : Cls K C) (n : NoAttr K C f) (l : fs.lookup f = some v) (k : Q v H) : FldK K f Q (.ref a) H := ⟨a, C, dx, fs, v, rfl, h, c, n, l, k⟩
def SFldK (K : PySem.W.Frag) (f : Str) (y : V) (σ : L2.St) (D : Ends) : VK := fun x H2 => ∃ a C dx fs, x = .ref a ∧ H2 a = some (.ins C dx fs) ∧ Cls K C ∧ NoAttr K C f ∧ fs.length < 1000 ∧ D.nx σ (upd H2 a (.ins C dx (putF f y fs)))
theorem g_sfld (k : te σ H fun y H1 => ta σ H1 (SFldK K f y σ D)) : sFld K ta te f D σ H := k
theorem v_sfld {dx : Addr} {fs : List (Str × V)} {y : V} (S : M Rs H) (i : Nat) (e : Rs[i]? = some (pt a (.ins C dx fs))) (c : Cls K C) (n : NoAttr K C f) (l : fs.length < 1000) (k : ∀ H', M (Rs.set i (pt a (.ins C dx (putF f y fs)))) H' → D.nx σ H') : SFldK K f y σ D (.ref a) H :=
  ⟨a, C, dx, fs, rfl, S.got i e, c, n, l, k _ (S.putAt i e)⟩
def RzK (W : WX) (C : Addr) (f : Str) (σ : L2.St) : VK := fun v H1 => ∀ d, H1 d = none → W (.ref C) (some d) σ (upd H1 d (.xd [(f, v)]))
theorem g_rz (k : te σ H (RzK W C f σ)) : tRz W C f te D σ H := k
theorem v_rz (S : M Rs H) (k : ∀ d H', M (pt d (.xd [(f, v)]) :: Rs) H' → W (.ref C) (some d) σ H') : RzK W C f σ v H := fun d hd => k d _ (S.new hd)
theorem v_dnew (S : M Rs H) (k : ∀ d H', M (pt d (.dK []) :: Rs) H' → Q (.ref d) H') : tDNewK σ H Q := fun d hd => k d _ (S.new hd)
def Pop1K (ty : TE) (σ : L2.St) (Q : VK) : VK := fun x H1 => ∃ a, x = .ref a ∧ IsD H1 a ∧ ty σ H1 fun y H2 => ∃ kvs k v, H2 a = some (.dK kvs) ∧ y = kV k ∧ valV kvs k = some v ∧ Q v (upd H2 a (.dK (dropK kvs k)))
theorem g_dpop (k : ta σ H (Pop1K tb σ Q)) : tDPop1 ta tb σ H Q := k
def PopV (a : Addr) (Q : VK) : VK := fun y H2 => ∃ kvs k v, H2 a = some (.dK kvs) ∧ y = kV k ∧ valV kvs k = some v ∧ Q v (upd H2 a (.dK (dropK kvs k)))
theorem v_dpop {kvs : List (Key × V)} (h : H a = some (.dK kvs)) (k : tb σ H (PopV a Q)) : Pop1K tb σ Q (.ref a) H := ⟨a, rfl, .inl ⟨kvs, .inl h⟩, k⟩
theorem v_popI {kvs : List (Key × V)} {n : Int} (S : M Rs H) (i : Nat) (e : Rs[i]? = some (pt a (.dK kvs))) (hv : valV kvs (Sum.inl n) = some v) (k : ∀ H', M (Rs.set i (pt a (.dK (dropK kvs (Sum.inl n))))) H' → Q v H') : PopV a Q (.int n) H :=
  ⟨kvs, Sum.inl n, v, S.got i e, rfl, hv, k _ (S.putAt i e)⟩
theorem v_popS {kvs : List (Key × V)} {n : Str} (S : M Rs H) (i : Nat) (e : Rs[i]? = some (pt a (.dK kvs))) (hv : valV kvs (Sum.inr n) = some v) (k : ∀ H', M (Rs.set i (pt a (.dK (dropK kvs (Sum.inr n))))) H' → Q v H') : PopV a Q (.str n) H :=
  ⟨kvs, Sum.inr n, v, S.got i e, rfl, hv, k _ (S.putAt i e)⟩
theorem v_ixK {kvs : List (Key × V)} {n : Int} (h : H a = some (.dK kvs)) (hv : valV kvs (Sum.inl n) = some v) (k : Q v H) : rIxK (.ref a) (.int n) H Q := ⟨a, v, rfl, by rw [← hv]; exact DGet.k (k := Sum.inl n) h, k⟩
theorem v_ixKS {kvs : List (Key × V)} {n : Str} (h : H a = some (.dK kvs)) (hv : valV kvs (Sum.inr n) = some v) (k : Q v H) : rIxK (.ref a) (.str n) H Q := ⟨a, v, rfl, by rw [← hv]; exact DGet.k (k := Sum.inr n) h, k⟩
theorem v_gIxK {kvs : List (Key × V)} {n : Int} (h : H a = some (.dK kvs)) (hv : valV kvs (Sum.inl n) = some v) (k : Q v H) : gIx K (.ref a) (.int n) H Q := .inr ⟨a, v, rfl, by rw [← hv]; exact DGet.k (k := Sum.inl n) h, k⟩
theorem v_gIxKS {kvs : List (Key × V)} {n : Str} (h : H a = some (.dK kvs)) (hv : valV kvs (Sum.inr n) = some v) (k : Q v H) : gIx K (.ref a) (.str n) H Q := .inr ⟨a, v, rfl, by rw [← hv]; exact DGet.k (k := Sum.inr n) h, k⟩
theorem v_put {kvs : List (Key × V)} {n : Int} {Q : Hp → Prop} (S : M Rs H) (i : Nat) (e : Rs[i]? = some (pt a (.dK kvs))) (hz : kvs.length < 100000) (k : ∀ H', M (Rs.set i (pt a (.dK (putK kvs (Sum.inl n) v)))) H' → Q H') : uSet (.ref a) (.int n) v H Q :=
  .inr ⟨a, _, rfl, DPut.k (k := Sum.inl n) (S.got i e) (Nat.lt_of_lt_of_le hz (by decide)), k _ (S.putAt i e)⟩
theorem v_putS {kvs : List (Key × V)} {n : Str} {Q : Hp → Prop} (S : M Rs H) (i : Nat) (e : Rs[i]? = some (pt a (.dK kvs))) (hz : kvs.length < 100000) (k : ∀ H', M (Rs.set i (pt a (.dK (putK kvs (Sum.inr n) v)))) H' → Q H') : uSet (.ref a) (.str n) v H Q :=
  .inr ⟨a, _, rfl, DPut.k (k := Sum.inr n) (S.got i e) (Nat.lt_of_lt_of_le hz (by decide)), k _ (S.putAt i e)⟩
theorem v_inK {kvs : List (Key × V)} {n : Int} (h : H a = some (.dK kvs)) (k : Q (.bl (valV kvs (Sum.inl n)).isSome) H) : uIn K (.int n) (.ref a) H Q := .inr (.inr (.inl ⟨a, _, rfl, DGet.k (k := Sum.inl n) h, k⟩))
theorem v_ninK {kvs : List (Key × V)} {n : Int} (h : H a = some (.dK kvs)) (k : Q (.bl (!(valV kvs (Sum.inl n)).isSome)) H) : uNotIn K (.int n) (.ref a) H Q := .inr (.inr (.inl ⟨a, _, rfl, DGet.k (k := Sum.inl n) h, k⟩))
theorem v_inKS {kvs : List (Key × V)} {n : Str} (h : H a = some (.dK kvs)) (k : Q (.bl (valV kvs (Sum.inr n)).isSome) H) : uIn K (.str n) (.ref a) H Q := .inr (.inr (.inl ⟨a, _, rfl, DGet.k (k := Sum.inr n) h, k⟩))
theorem v_ninKS {kvs : List (Key × V)} {n : Str} (h : H a = some (.dK kvs)) (k : Q (.bl (!(valV kvs (Sum.inr n)).isSome)) H) : uNotIn K (.str n) (.ref a) H Q := .inr (.inr (.inl ⟨a, _, rfl, DGet.k (k := Sum.inr n) h, k⟩))
theorem v_lenD {kvs : List (Key × V)} (h : H a = some (.dK kvs)) (k : Q (.int (kvs.length : Nat)) H) : uLen K [.ref a] H Q := .inr ⟨a, kvs, rfl, .inl h, k⟩
theorem v_isi {x : V} {ty : Value} {c : String} {b : Bool} (h : TyX K H x ty) (e : PySem.W.kitOne K ty (.type c) = some b) (k : Q (.bl b) H) : rIsi K [x, .ty c] H Q := ⟨x, .ty c, ty, _, b, rfl, .ty c, h, e, k⟩
theorem g_callE {cls : Value} {d : Option Addr} {sp : Addr → Value → Option Addr → Hp → VK → Prop} (k : te σ H fun x H1 => x = .ref a ∧ sp a cls d H1 Q) : tCallE a cls d sp te σ H Q := k
theorem g_xg {cls : Value} {d : Option Addr} {n : Str} (k : te σ H fun x H1 => x = .ref a ∧ ∃ D dd fs v, cls = .ref D ∧ ExcC K D ∧ PySem.W.findIn K (.ref D) n = some none ∧ d = some dd ∧ H1 dd = some (.xd fs) ∧ fs.lookup n = some v ∧ Q v H1) : tXg K a cls d n te σ H Q := k
theorem v_xg {D dd : Addr} {fs : List (Str × V)} {n : Str} (c : ExcC K D) (hn : PySem.W.findIn K (.ref D) n = some none) (h : H dd = some (.xd fs)) (l : fs.lookup n = some v) (k : Q v H) :
    V.ref a = .ref a ∧ ∃ D' dd' fs' v', Value.ref D = .ref D' ∧ ExcC K D' ∧ PySem.W.findIn K (.ref D') n = some none ∧ some dd = some dd' ∧ H dd' = some (.xd fs') ∧ fs'.lookup n = some v' ∧ Q v' H := ⟨rfl, D, dd, fs, v, rfl, c, hn, rfl, h, l, k⟩
theorem v_isX {D dd B : Addr} {fs : List (Str × V)} {b : Bool} (c : ExcC K D) (h : H dd = some (.xd fs)) (e : PySem.W.kitOne K (.ref D) (.ref B) = some b) (k : Q (.bl b) H) : uIsX K a (.ref D) (some dd) [.ref a, .ref B] H Q :=
  .inl ⟨.ref B, .ref B, b, rfl, ⟨D, rfl, c, .inr ⟨dd, fs, rfl, h⟩⟩, .own B, e, k⟩
theorem v_isXT {D dd : Addr} {fs : List (Str × V)} {B : String} {b : Bool} (c : ExcC K D) (h : H dd = some (.xd fs)) (e : PySem.W.kitOne K (.ref D) (.type B) = some b) (k : Q (.bl b) H) : uIsX K a (.ref D) (some dd) [.ref a, .ty B] H Q :=
  .inl ⟨.ty B, .type B, b, rfl, ⟨D, rfl, c, .inr ⟨dd, fs, rfl, h⟩⟩, .ty B, e, k⟩
theorem g_try {tb : WX → TS} {l : List Hd} (k : tb (wTry K W D l) D σ H) : tTry K W tb l D σ H := k
end
/-! ### sorted -/
theorem sorted_eq : ∀ {xs ys : List Int}, xs.Perm ys → xs.Pairwise (· ≤ ·) → ys.Pairwise (· ≤ ·) → xs = ys
  | [], ys, p, _, _ => (List.nil_perm.mp p).symm
  | x :: xs, [], p, _, _ => absurd p.length_eq (by simp)
  | x :: xs, y :: ys, p, h1, h2 => by
    obtain ⟨a1, a2⟩ := List.pairwise_cons.mp h1
    obtain ⟨b1, b2⟩ := List.pairwise_cons.mp h2
    have e : x = y := by
      have m1 : y ∈ x :: xs := p.mem_iff.mpr List.mem_cons_self
      have m2 : x ∈ y :: ys := p.mem_iff.mp List.mem_cons_self
      rcases List.mem_cons.mp m1 with z | z
      · exact z.symm
      · rcases List.mem_cons.mp m2 with w | w
        · exact w
        · have := a1 y z
          have := b1 x w
          omega
    subst e
    rw [sorted_eq (List.Perm.cons_inv p) a2 b2]
def srt (ks : List Int) : List Int := ks.mergeSort (fun a b => decide (a ≤ b))
theorem srt_perm (ks : List Int) : (srt ks).Perm ks := List.mergeSort_perm _ _
theorem srt_sorted (ks : List Int) : (srt ks).Pairwise (· ≤ ·) := by
  have h := List.pairwise_mergeSort (le := fun a b : Int => decide (a ≤ b)) (by intro a b c h1 h2; simp at *; omega) (by intro a b; simp; omega) ks
  exact h.imp fun z => by simpa using z
theorem srt_eq {xs ks : List Int} (p : xs.Perm ks) (h : xs.Pairwise (· ≤ ·)) : xs = srt ks := sorted_eq (p.trans (srt_perm ks).symm) h (srt_sorted ks)
theorem v_sortDI {H : Hp} {Q : VK} {Rs : List Res} {a : Addr} {kvs : List (Key × V)} {ks : List Int} (S : M Rs H) (h : H a = some (.dK kvs)) (e : kvs.map (·.1) = ks.map Sum.inl) (hz : ks.length < 64) (k : ∀ p H', M (pt p (.lst ((srt ks).map V.int)) :: Rs) H' → Q (.ref p) H') :
    rSortDI [.ref a] H Q := by
  refine ⟨a, kvs, ks, rfl, .inl h, e, hz, fun ys p hp hs hn => ?_⟩
  rw [srt_eq hp hs]
  exact k p _ (S.new hn)
theorem v_dictD {H : Hp} {Q : VK} {Rs : List Res} {a : Addr} {kvs : List (Key × V)} (S : M Rs H) (h : H a = some (.dK kvs)) (k : ∀ p H', M (pt p (.dK kvs) :: Rs) H' → Q (.ref p) H') : rDictD [.ref a] H Q := ⟨a, kvs, rfl, .inl h, fun p hn => k p _ (S.new hn)⟩
theorem Ent.tl {Rs : List Res} {R : Res} {φ : Hp → Prop} (h : Ent Rs φ) : Ent (R :: Rs) φ := fun H S => h H S.tl
theorem Ent.tl2 {Rs : List Res} {R R' : Res} {φ : Hp → Prop} (h : Ent Rs φ) : Ent (R :: R' :: Rs) φ := h.tl.tl
theorem Ent.imp {Rs : List Res} {φ ψ : Hp → Prop} (h : Ent Rs φ) (i : ∀ H, φ H → ψ H) : Ent Rs ψ := fun H S => i H (h H S)
theorem M.new' {Rs : List Res} {H : Hp} (S : M Rs H) : ∀ p o, H p = none → M (pt p o :: Rs) (upd H p o) := fun _ _ h => S.new h
end RC

namespace RC
open PySem PySem.Spec PyProof.Rows L2
/-- int(truth) -/
def rIntB : List V → Hp → VK → Prop := fun xs H Q => ∃ b : Bool, xs = [.bl b] ∧ Q (.int (if b then 1 else 0)) H
theorem cr_intB {X : Cx} : CallR X (.type "int") rIntB := by
  intro pins s σ H xs us Q I rs h
  obtain ⟨b, rfl, h⟩ := h
  cases rs with
  | cons r1 rs =>
    cases rs
    cases r1
    exact call_int_1 (meets_int_new_bool b) (show (Made.int _).post _ s from ⟨rfl, ⟨.int _, H, I.tok _, ⟨_, rfl⟩, h⟩⟩)
theorem v_intB {b : Bool} {H : Hp} {Q : VK} (k : Q (.int (if b then 1 else 0)) H) : rIntB [.bl b] H Q := ⟨b, rfl, k⟩
end RC

namespace RC
open PySem PySem.Spec PyProof.Rows L2
/-! ### data of any depth, dicts too (a dict that is data is frozen for ever) -/
def kD : Key → PyData
  | .inl i => .int i
  | .inr x => .str x
mutual
inductive Dq (K : PySem.W.Frag) (H : Hp) : V → PyData → Prop
  | non : Dq K H .non .none
  | bl (b : Bool) : Dq K H (.bl b) (.bool b)
  | int (i : Int) : Dq K H (.int i) (.int i)
  | str (x : Str) : Dq K H (.str x) (.str x)
  | lst {a : Addr} {vs : List V} {ds : List PyData} (h : SqL K H a vs) (q : DqAll K H vs ds) : Dq K H (.ref a) (.list ds)
  | tup {a : Addr} {vs : List V} {ds : List PyData} (h : SqT K H a vs) (q : DqAll K H vs ds) : Dq K H (.ref a) (.tuple ds)
  | dct {a : Addr} {od : Obj} {kvs : List (Key × V)} {ds : List (PyData × PyData)} (h : H a = some (.frz od (.dK kvs))) (q : DqKv K H kvs ds) : Dq K H (.ref a) (.dict ds)
inductive DqAll (K : PySem.W.Frag) (H : Hp) : List V → List PyData → Prop
  | nil : DqAll K H [] []
  | cons {v : V} {vs : List V} {d : PyData} {ds : List PyData} (h : Dq K H v d) (r : DqAll K H vs ds) : DqAll K H (v :: vs) (d :: ds)
inductive DqKv (K : PySem.W.Frag) (H : Hp) : List (Key × V) → List (PyData × PyData) → Prop
  | nil : DqKv K H [] []
  | cons {k : Key} {v : V} {vs : List (Key × V)} {d : PyData} {ds : List (PyData × PyData)} (h : Dq K H v d) (r : DqKv K H vs ds) : DqKv K H ((k, v) :: vs) ((kD k, d) :: ds)
end
mutual
theorem Dq_ext {K : PySem.W.Frag} {H H' : Hp} (e : Ext H H') : ∀ {v : V} {d : PyData}, Dq K H v d → Dq K H' v d
  | _, _, .non => .non
  | _, _, .bl b => .bl b
  | _, _, .int i => .int i
  | _, _, .str x => .str x
  | _, _, .lst h q => .lst (e.sqL h) (DqAll_ext e q)
  | _, _, .tup h q => .tup (e.sqT h) (DqAll_ext e q)
  | _, _, .dct h q => .dct (e _ _ h) (DqKv_ext e q)
theorem DqAll_ext {K : PySem.W.Frag} {H H' : Hp} (e : Ext H H') : ∀ {vs : List V} {ds : List PyData}, DqAll K H vs ds → DqAll K H' vs ds
  | _, _, .nil => .nil
  | _, _, .cons h r => .cons (Dq_ext e h) (DqAll_ext e r)
theorem DqKv_ext {K : PySem.W.Frag} {H H' : Hp} (e : Ext H H') : ∀ {vs : List (Key × V)} {ds : List (PyData × PyData)}, DqKv K H vs ds → DqKv K H' vs ds
  | _, _, .nil => .nil
  | _, _, .cons h r => .cons (Dq_ext e h) (DqKv_ext e r)
end
mutual
theorem Dq.dp {K : PySem.W.Frag} {H : Hp} : ∀ {v : V} {d : PyData}, Dq K H v d → d.hasDict = false → Dp K H v d
  | _, _, .non, _ => .non
  | _, _, .bl b, _ => .bl b
  | _, _, .int i, _ => .int i
  | _, _, .str x, _ => .str x
  | _, _, .lst h q, n => .lst h (DqAll.dp q (by simpa only [PyData.hasDict] using n))
  | _, _, .tup h q, n => .tup h (DqAll.dp q (by simpa only [PyData.hasDict] using n))
  | _, _, .dct h q, n => by simp [PyData.hasDict] at n
theorem DqAll.dp {K : PySem.W.Frag} {H : Hp} : ∀ {vs : List V} {ds : List PyData}, DqAll K H vs ds → PyData.hasDictAll ds = false → DpAll K H vs ds
  | _, _, .nil, _ => .nil
  | _, _, .cons h r, n => by
    simp only [PyData.hasDictAll, Bool.or_eq_false_iff] at n
    exact .cons (Dq.dp h n.1) (DqAll.dp r n.2)
end
mutual
theorem Dp.dq {K : PySem.W.Frag} {H : Hp} : ∀ {v : V} {d : PyData}, Dp K H v d → Dq K H v d
  | _, _, .non => .non
  | _, _, .bl b => .bl b
  | _, _, .int i => .int i
  | _, _, .str x => .str x
  | _, _, .lst h q => .lst h (DpAll.dq q)
  | _, _, .tup h q => .tup h (DpAll.dq q)
theorem DpAll.dq {K : PySem.W.Frag} {H : Hp} : ∀ {vs : List V} {ds : List PyData}, DpAll K H vs ds → DqAll K H vs ds
  | _, _, .nil => .nil
  | _, _, .cons h r => .cons (Dp.dq h) (DpAll.dq r)
end
/-! data as it is now: dicts of one's own, too -/
mutual
inductive Dn (K : PySem.W.Frag) (H : Hp) : V → PyData → Prop
  | non : Dn K H .non .none
  | bl (b : Bool) : Dn K H (.bl b) (.bool b)
  | int (i : Int) : Dn K H (.int i) (.int i)
  | str (x : Str) : Dn K H (.str x) (.str x)
  | lst {a : Addr} {vs : List V} {ds : List PyData} (h : SqL K H a vs) (q : DnAll K H vs ds) : Dn K H (.ref a) (.list ds)
  | tup {a : Addr} {vs : List V} {ds : List PyData} (h : SqT K H a vs) (q : DnAll K H vs ds) : Dn K H (.ref a) (.tuple ds)
  | dct {a : Addr} {kvs : List (Key × V)} {ds : List (PyData × PyData)} (h : Rd H a (.dK kvs)) (q : DnKv K H kvs ds) : Dn K H (.ref a) (.dict ds)
inductive DnAll (K : PySem.W.Frag) (H : Hp) : List V → List PyData → Prop
  | nil : DnAll K H [] []
  | cons {v : V} {vs : List V} {d : PyData} {ds : List PyData} (h : Dn K H v d) (r : DnAll K H vs ds) : DnAll K H (v :: vs) (d :: ds)
inductive DnKv (K : PySem.W.Frag) (H : Hp) : List (Key × V) → List (PyData × PyData) → Prop
  | nil : DnKv K H [] []
  | cons {k : Key} {v : V} {vs : List (Key × V)} {d : PyData} {ds : List (PyData × PyData)} (h : Dn K H v d) (r : DnKv K H vs ds) : DnKv K H ((k, v) :: vs) ((kD k, d) :: ds)
end
mutual
theorem Dq.dn {K : PySem.W.Frag} {H : Hp} : ∀ {v : V} {d : PyData}, Dq K H v d → Dn K H v d
  | _, _, .non => .non
  | _, _, .bl b => .bl b
  | _, _, .int i => .int i
  | _, _, .str x => .str x
  | _, _, .lst h q => .lst h (DqAll.dn q)
  | _, _, .tup h q => .tup h (DqAll.dn q)
  | _, _, .dct h q => .dct (.inr ⟨_, h⟩) (DqKv.dn q)
theorem DqAll.dn {K : PySem.W.Frag} {H : Hp} : ∀ {vs : List V} {ds : List PyData}, DqAll K H vs ds → DnAll K H vs ds
  | _, _, .nil => .nil
  | _, _, .cons h r => .cons (Dq.dn h) (DqAll.dn r)
theorem DqKv.dn {K : PySem.W.Frag} {H : Hp} : ∀ {vs : List (Key × V)} {ds : List (PyData × PyData)}, DqKv K H vs ds → DnKv K H vs ds
  | _, _, .nil => .nil
  | _, _, .cons h r => .cons (Dq.dn h) (DqKv.dn r)
end
mutual
theorem Dn.dp {K : PySem.W.Frag} {H : Hp} : ∀ {v : V} {d : PyData}, Dn K H v d → d.hasDict = false → Dp K H v d
  | _, _, .non, _ => .non
  | _, _, .bl b, _ => .bl b
  | _, _, .int i, _ => .int i
  | _, _, .str x, _ => .str x
  | _, _, .lst h q, n => .lst h (DnAll.dp q (by simpa only [PyData.hasDict] using n))
  | _, _, .tup h q, n => .tup h (DnAll.dp q (by simpa only [PyData.hasDict] using n))
  | _, _, .dct h q, n => by simp [PyData.hasDict] at n
theorem DnAll.dp {K : PySem.W.Frag} {H : Hp} : ∀ {vs : List V} {ds : List PyData}, DnAll K H vs ds → PyData.hasDictAll ds = false → DpAll K H vs ds
  | _, _, .nil, _ => .nil
  | _, _, .cons h r, n => by
    simp only [PyData.hasDictAll, Bool.or_eq_false_iff] at n
    exact .cons (Dn.dp h n.1) (DnAll.dp r n.2)
end
/-! ### encoders -/
abbrev eI : Int → PyData := PyData.int
abbrev eB : Bool → PyData := PyData.bool
abbrev eS : Str → PyData := PyData.str
abbrev eN : Unit → PyData := fun _ => PyData.none
abbrev eA : PyData → PyData := id
def eL {α : Type} (e : α → PyData) (xs : List α) : PyData := .list (xs.map e)
/-- a tuple of things of one kind -/
def eV {α : Type} (e : α → PyData) (xs : List α) : PyData := .tuple (xs.map e)
def eP {α β : Type} (e : α → PyData) (f : β → PyData) (x : α × β) : PyData := .tuple [e x.1, f x.2]
def eT3 {α β γ : Type} (e : α → PyData) (f : β → PyData) (g : γ → PyData) (x : α × β × γ) : PyData := .tuple [e x.1, f x.2.1, g x.2.2]
def eT4 {α β γ δ : Type} (e : α → PyData) (f : β → PyData) (g : γ → PyData) (h : δ → PyData) (x : α × β × γ × δ) : PyData := .tuple [e x.1, f x.2.1, g x.2.2.1, h x.2.2.2]
def eO {α : Type} (e : α → PyData) : Option α → PyData
  | none => .none
  | some x => e x
abbrev iI : Int → Key := Sum.inl
abbrev iS : Str → Key := Sum.inr
def eD {κ α : Type} (ik : κ → Key) (e : α → PyData) (m : List (κ × α)) : PyData := .dict (m.map fun p => (kD (ik p.1), e p.2))
/-! ### resources -/
def da (K : PySem.W.Frag) (v : V) (d : PyData) : Res := ⟨fun F l => l = [] ∧ Dq K F v d, fun _ _ _ e h => ⟨h.1, Dq_ext e h.2⟩⟩
def daA (K : PySem.W.Frag) (vs : List V) (ds : List PyData) : Res := ⟨fun F l => l = [] ∧ DqAll K F vs ds, fun _ _ _ e h => ⟨h.1, DqAll_ext e h.2⟩⟩
def daK (K : PySem.W.Frag) (vs : List (Key × V)) (ds : List (PyData × PyData)) : Res := ⟨fun F l => l = [] ∧ DqKv K F vs ds, fun _ _ _ e h => ⟨h.1, DqKv_ext e h.2⟩⟩
/-- what the resources bring, for ever -/
def EnF (Rs : List Res) (φ : Hp → Prop) : Prop := ∀ F L, Sat F Rs L → φ F
theorem Sat.get {F : Hp} : ∀ {Rs : List Res} {L : List Cell} (i : Nat) {R : Res}, Sat F Rs L → Rs[i]? = some R → ∃ l, R.on F l
  | [], L, i, R, _, e => by simp at e
  | S :: Rs, L, 0, R, ⟨l1, l2, _, a, _⟩, e => by
    have e : S = R := Option.some.inj e
    subst e
    exact ⟨l1, a⟩
  | S :: Rs, L, i + 1, R, ⟨l1, l2, _, _, b⟩, e => Sat.get i b (by simpa using e)
section
variable {K : PySem.W.Frag} {Rs R0 : List Res} {H : Hp} {v : V} {d : PyData} {vs : List V} {ds : List PyData} {φ ψ : Hp → Prop}
theorem M.gotA (S : M Rs H) (i : Nat) (e : Rs[i]? = some (da K v d)) : Dq K H v d := by
  obtain ⟨F, L, s, m⟩ := S
  obtain ⟨l, h⟩ := s.get i e
  exact Dq_ext m.ex h.2
theorem EnF.at (i : Nat) (e : Rs[i]? = some (da K v d)) : EnF Rs (fun F => Dq K F v d) := fun F L s => by
  obtain ⟨l, h⟩ := s.get i e
  exact h.2
theorem EnF.atF {p : Addr} {o : HO} (i : Nat) (e : Rs[i]? = some (fz p o)) : EnF Rs (fun F => F p = some o) := fun F L s => by
  obtain ⟨l, h⟩ := s.get i e
  exact h.2
theorem EnF.all (h : ∀ F, φ F) : EnF Rs φ := fun F _ _ => h F
theorem EnF.imp (h : EnF Rs φ) (k : ∀ F, φ F → ψ F) : EnF Rs ψ := fun F L s => k F (h F L s)
theorem EnF.tl {R : Res} (h : EnF Rs φ) : EnF (R :: Rs) φ := fun F L ⟨_, l2, _, _, b⟩ => h F l2 b
theorem EnF.nilA : EnF Rs (fun F => DqAll K F [] []) := fun _ _ _ => .nil
theorem EnF.consA (h : EnF Rs (fun F => Dq K F v d)) (r : EnF Rs (fun F => DqAll K F vs ds)) : EnF Rs (fun F => DqAll K F (v :: vs) (d :: ds)) := fun F L s => .cons (h F L s) (r F L s)
theorem M.of (S : M Rs H) (h : EnF Rs φ) (mono : ∀ F, Ext F H → φ F → ψ H) : ψ H := by
  obtain ⟨F, L, s, m⟩ := S
  exact mono F m.ex (h F L s)
theorem M.dq (S : M Rs H) (h : EnF Rs (fun F => Dq K F v d)) : Dq K H v d := by
  obtain ⟨F, L, s, m⟩ := S
  exact Dq_ext m.ex (h F L s)
/-- one more fact that stands for ever -/
theorem M.addA (S : M Rs H) (h : EnF Rs (fun F => Dq K F v d)) : M (da K v d :: Rs) H := by
  obtain ⟨F, L, s, m⟩ := S
  exact ⟨F, L, ⟨[], L, rfl, ⟨rfl, h F L s⟩, s⟩, m⟩
/-- a new list, a new tuple, is data from now on -/
theorem M.fixQ {p : Addr} (S : M (pt p (.lst vs) :: Rs) H) (h : EnF Rs (fun F => DqAll K F vs ds)) : M (da K (.ref p) (.list ds) :: Rs) H := by
  obtain ⟨F, L, ⟨l1, l2, rfl, ⟨rfl, fp⟩, s⟩, m⟩ := S.fix
  obtain ⟨F0, L0, ⟨l3, l4, rfl, e0, s0⟩, m0⟩ := S
  have s1 := m0
  refine ⟨upd F0 p (.lst vs), l4, ⟨[], l4, rfl, ⟨rfl, .lst (.inl (.inl upd_same)) ?_⟩, ?_⟩, ?_⟩
  · have hn : F0 p = none := by
      subst e0
      exact (m0.own (p, .lst vs) (by simp)).2
    exact DqAll_ext (Ext.new hn) (h F0 l4 s0)
  · have hn : F0 p = none := by
      subst e0
      exact (m0.own (p, .lst vs) (by simp)).2
    exact s0.mono (Ext.new hn)
  · subst e0
    have hp := m0.own (p, .lst vs) (by simp)
    have nd := m0.nd
    rw [List.map_append] at nd
    have nd2 : ((p :: l4.map (·.1)) : List Addr).Nodup := nd
    have np := (List.nodup_cons.mp nd2).1
    refine ⟨fun a u e => ?_, fun c hc => ?_, (List.nodup_cons.mp nd2).2⟩
    · by_cases z : a = p
      · subst z
        rw [upd_same] at e
        cases e
        exact hp.1
      · rw [upd_ne z] at e
        exact m0.ex _ _ e
    · have q := m0.own c (List.mem_append_right _ hc)
      refine ⟨q.1, ?_⟩
      have : c.1 ≠ p := fun z => np (List.mem_map.mpr ⟨c, hc, z⟩)
      rw [upd_ne this]
      exact q.2
end
end RC

namespace RC
open PySem PySem.Spec PyProof.Rows L2
/-! ### plain code, without a heap: wishes of what is told -/
def forD {α β : Type} (f : α → β → (β → Prop) → Prop) : List α → β → (β → Prop) → Prop
  | [], s, k => k s
  | x :: xs, s, k => f x s fun s' => forD f xs s' k
/-- a comprehension: none where it is left out -/
def lcD {α β : Type} (f : α → (Option β → Prop) → Prop) : List α → List β → (List β → Prop) → Prop
  | [], acc, k => k acc
  | x :: xs, acc, k => f x fun y => lcD f xs (acc ++ y.toList) k
def jn {β : Type} (m : (β → Prop) → Prop) (k : β → Prop) : Prop := m k
def whN {β : Type} (c : β → (Bool → Prop) → Prop) (f : β → (β → Prop) → Prop) : Nat → β → (β → Prop) → Prop
  | 0, _, _ => False
  | n + 1, s, k => c s fun b => if b = true then f s fun s' => whN c f n s' k else k s
def whD {β : Type} (c : β → (Bool → Prop) → Prop) (f : β → (β → Prop) → Prop) (s : β) (k : β → Prop) : Prop := ∃ n, whN c f n s k
abbrev sno {α : Type} (xs : List α) (x : α) : List α := xs ++ [x]
abbrev cat {α : Type} (xs ys : List α) : List α := xs ++ ys
/-- a draw -/
def takeD (n : Int) (k : Int → Prop) : Prop := (0 < n ∧ n < 2 ^ 62) ∧ ∀ v, 0 ≤ v → v < n → k v
def rng (n : Int) : List Int := (List.range n.toNat).map fun i => (0 : Int) + (i : Nat)
def cutL {α : Type} (xs : List α) (lo hi : Option Int) : List α := (xs.drop (HT.sIx xs.length 0 lo)).take (HT.sIx xs.length xs.length hi - HT.sIx xs.length 0 lo)
section
variable {K : PySem.W.Frag} {σ : L2.St} {H : Hp} {Q : VK} {D : Ends} {Rs : List Res} {E : XK} {t u : TS} {α β : Type}
theorem v_iff {b : Bool} {A B X Y : Prop} (hf : if b = true then X else Y) (h1 : b = true → X → A) (h2 : b = false → Y → B) : if b = true then A else B := by
  cases b with
  | true => exact h1 rfl (by simpa using hf)
  | false => exact h2 rfl (by simpa using hf)
theorem v_andB {b1 b2 : Bool} {P : Bool → Prop} {X : Prop} (hx : P b2 → X) (hq : P (b1 && b2)) : if b1 = true then X else P false := by
  cases b1 with
  | true => exact hx hq
  | false => exact hq
theorem v_orB {b1 b2 : Bool} {P : Bool → Prop} {X : Prop} (hx : P b2 → X) (hq : P (b1 || b2)) : if b1 = true then P true else X := by
  cases b1 with
  | true => exact hq
  | false => exact hx hq
theorem jn_cut {m : (β → Prop) → Prop} {KK : β → Prop} (hf : jn m KK) (Inv : β → L2.St → Hp → Prop)
    (h1 : ∀ (kk : β → Prop) (N : L2.St → Hp → Prop), (∀ s σ H, kk s → Inv s σ H → N σ H) → m kk → t ⟨N, D.rt, D.bk, D.ct⟩ σ H)
    (h2 : ∀ s σ H, KK s → Inv s σ H → u D σ H) : tSeq t u D σ H := h1 KK (u D) h2 hf
theorem tst_cut {φ : (Bool → Hp → Prop) → Prop} {P : Bool → Hp → Prop} {m : (Bool → Prop) → Prop} {KK : Bool → Prop} (hf : jn m KK) (Inv : Hp → Prop)
    (h1 : ∀ (kk : Bool → Prop) (P' : Bool → Hp → Prop), (∀ c H, kk c → Inv H → P' c H) → m kk → φ P') (h2 : ∀ c H, KK c → Inv H → P c H) : φ P := h1 KK P h2 hf
theorem val_cut {φ : VK → Prop} {P : VK} {m : (β → Prop) → Prop} {KK : β → Prop} (hf : jn m KK) (Inv : β → V → Hp → Prop)
    (h1 : ∀ (kk : β → Prop) (P' : VK), (∀ x v H, kk x → Inv x v H → P' v H) → m kk → φ P') (h2 : ∀ x v H, KK x → Inv x v H → P v H) : φ P := h1 KK P h2 hf
/-! lists that are walked -/
theorem M.openQ {v : V} {ds : List PyData} (S : M (da K v (.list ds) :: Rs) H) : ∃ a vs, v = .ref a ∧ M (rdL K a vs :: daA K vs ds :: Rs) H := by
  obtain ⟨F, L, ⟨l1, l2, rfl, ⟨rfl, e⟩, b⟩, m⟩ := S
  cases e with
  | lst h1 h2 => exact ⟨_, _, rfl, F, l2, ⟨[], l2, rfl, ⟨rfl, h1⟩, [], l2, rfl, ⟨rfl, h2⟩, b⟩, m⟩
theorem DqAll.len : ∀ {vs : List V} {ds : List PyData}, DqAll K H vs ds → vs.length = ds.length
  | _, _, .nil => rfl
  | _, _, .cons _ r => by rw [List.length_cons, List.length_cons, DqAll.len r]
theorem DqAll.at : ∀ {vs : List V} {ds : List PyData}, DqAll K H vs ds → ∀ {i : Nat} {v : V} {d : PyData}, vs[i]? = some v → ds[i]? = some d → Dq K H v d
  | _, _, .nil, i, v, d, h, _ => by simp at h
  | _, _, .cons a r, 0, v, d, h, g => by
    cases (Option.some.inj (show some _ = some v from h))
    cases (Option.some.inj (show some _ = some d from g))
    exact a
  | _, _, .cons a r, i + 1, v, d, h, g => DqAll.at r (by simpa using h) (by simpa using g)
theorem M.gotAA {vs : List V} {ds : List PyData} (S : M Rs H) (i : Nat) (e : Rs[i]? = some (daA K vs ds)) : DqAll K H vs ds := by
  obtain ⟨F, L, s, m⟩ := S
  obtain ⟨l, h⟩ := s.get i e
  exact DqAll_ext m.ex h.2
/-- one of them -/
theorem M.elA {e : α → PyData} {vs : List V} {xs : List α} {i : Nat} {v : V} {x : α} (S : M Rs H) (j : Nat) (hj : Rs[j]? = some (daA K vs (xs.map e))) (hv : vs[i]? = some v) (hx : xs[i]? = some x) : M (da K v (e x) :: Rs) H :=
  S.addA fun F L s => by
    obtain ⟨l, h⟩ := s.get j hj
    exact h.2.at hv (by rw [List.getElem?_map, hx]; rfl)
theorem for_lst {F : α → β → (β → Prop) → Prop} {e : α → PyData} {xs : List α} {vs : List V} {s0 : β} {KK : β → Prop} {a : Addr} {g : TG} {tb : TS} (hf : forD F xs s0 KK) (Inv : β → L2.St → Hp → Prop) (h0 : Inv s0 σ H)
    (hrd : ∀ s σ H, Inv s σ H → SqL K H a vs ∧ DqAll K H vs (xs.map e))
    (hs : ∀ (i : Nat) v x s σ H (kk : β → Prop), Inv s σ H → vs[i]? = some v → xs[i]? = some x → F x s kk → g v σ H fun σ2 H2 => tb ⟨fun σ H => ∃ s', kk s' ∧ Inv s' σ H, D.rt, D.nx, fun σ H => ∃ s', kk s' ∧ Inv s' σ H⟩ σ2 H2)
    (hd : ∀ s σ H, KK s → Inv s σ H → D.nx σ H) : ForW (Itl K a) g tb D σ H := by
  have hl : vs.length = xs.length := by
    have := (hrd s0 σ H h0).2.len
    rwa [List.length_map] at this
  refine for_W walk_list (fun i σ H => ∃ s, forD F (xs.drop i) s KK ∧ Inv s σ H) ⟨s0, by simpa using hf, h0⟩ (fun i σ H _ ⟨s, _, h⟩ => (hrd s σ H h).1) ?_ ?_
  · rintro i v σ H H' hi ⟨s, hf, h⟩ ⟨rfl, hv⟩
    have hi2 : i < xs.length := by omega
    rw [List.drop_eq_getElem_cons hi2] at hf
    exact hs i v _ s σ H' _ h hv (List.getElem?_eq_getElem hi2) hf
  · rintro σ H ⟨s, hf, h⟩
    rw [hl, List.drop_length] at hf
    exact hd s σ H hf h
theorem rng_len (n : Int) : (rng n).length = n.toNat := by simp [rng]
theorem rng_get {n : Int} {i : Nat} (h : i < n.toNat) : (rng n)[i]? = some ((0 : Int) + (i : Nat)) := by
  unfold rng
  rw [List.getElem?_map, List.getElem?_range h]
  rfl
theorem for_rng {F : Int → β → (β → Prop) → Prop} {n : Int} {s0 : β} {KK : β → Prop} {g : TG} {tb : TS} (hf : forD F (rng n) s0 KK) (Inv : β → L2.St → Hp → Prop) (h0 : Inv s0 σ H)
    (hs : ∀ x s σ H (kk : β → Prop), Inv s σ H → F x s kk → g (.int x) σ H fun σ2 H2 => tb ⟨fun σ H => ∃ s', kk s' ∧ Inv s' σ H, D.rt, D.nx, fun σ H => ∃ s', kk s' ∧ Inv s' σ H⟩ σ2 H2)
    (hd : ∀ s σ H, KK s → Inv s σ H → D.nx σ H) : ForW (Itr 0 n.toNat) g tb D σ H := by
  refine for_W walk_range (fun i σ H => ∃ s, forD F ((rng n).drop i) s KK ∧ Inv s σ H) ⟨s0, by simpa using hf, h0⟩ (fun _ _ _ _ _ => trivial) ?_ ?_
  · rintro i v σ H H' hi ⟨s, hf, h⟩ ⟨rfl, rfl⟩
    have hi2 : i < (rng n).length := by rw [rng_len]; exact hi
    rw [List.drop_eq_getElem_cons hi2] at hf
    have e : (rng n)[i] = (0 : Int) + (i : Nat) := Option.some.inj ((List.getElem?_eq_getElem hi2).symm.trans (rng_get hi))
    rw [e] at hf
    exact hs _ s σ H' _ h hf
  · rintro σ H ⟨s, hf, h⟩
    rw [← rng_len, List.drop_length] at hf
    exact hd s σ H hf h
/-- the list of a comprehension, so far -/
def acR (K : PySem.W.Frag) (E : Addr) (ds : List PyData) : Res := exi fun vs => sp2 (pt E (.lst vs)) (daA K vs ds)
theorem acR_nil {E : Addr} (S : M (pt E (.lst []) :: Rs) H) : M (acR K E [] :: Rs) H := by
  obtain ⟨F, L, ⟨l1, l2, rfl, a, b⟩, m⟩ := S
  exact ⟨F, _, ⟨l1, l2, rfl, ⟨[], l1, [], by simp, a, rfl, .nil⟩, b⟩, m⟩
theorem acR_fix {E : Addr} {ds : List PyData} (S : M (acR K E ds :: Rs) H) : M (da K (.ref E) (.list ds) :: Rs) H := by
  obtain ⟨vs, S⟩ := S.ex
  obtain ⟨F, L, ⟨l1, l2, rfl, ⟨rfl, fp⟩, l3, l4, rfl, ⟨rfl, q⟩, b⟩, m⟩ := S.sp.fix
  exact ⟨F, l4, ⟨[], l4, rfl, ⟨rfl, .lst (.inl (.inl fp)) q⟩, b⟩, m⟩
theorem DqAll.snoc {v : V} {d : PyData} (h : Dq K H v d) : ∀ {vs : List V} {ds : List PyData}, DqAll K H vs ds → DqAll K H (vs ++ [v]) (ds ++ [d])
  | _, _, .nil => .cons h .nil
  | _, _, .cons a r => .cons a (DqAll.snoc h r)
/-- one more -/
theorem acR_put {N : Hp → Prop} {E : Addr} {ds : List PyData} {y : V} {d : PyData} (S : M Rs H) (j : Nat) (hj : Rs[j]? = some (acR K E ds)) (h : EnF Rs (fun F => Dq K F y d)) (hz : ds.length < 100000) (k : ∀ H', M (acR K E (ds ++ [d]) :: Rs.eraseIdx j) H' → N H') : LcK N E y H := by
  have S0 : M (da K y d :: Rs) H := S.addA h
  have S1 : M (acR K E ds :: da K y d :: Rs.eraseIdx j) H := (S0.at (j + 1) (by simpa using hj))
  obtain ⟨vs, S2⟩ := S1.ex
  have S3 := S2.sp
  have hl : vs.length = ds.length := (S3.gotAA 1 rfl).len
  refine ⟨vs, S3.got 0 rfl, Nat.lt_of_lt_of_le (by rw [hl]; exact hz) (by decide), k _ ?_⟩
  have S4 := S3.putAt (o' := .lst (vs ++ [y])) 0 rfl
  obtain ⟨F, L, ⟨l1, l2, rfl, a, l3, l4, rfl, ⟨rfl, q⟩, l5, l6, rfl, ⟨rfl, q2⟩, b⟩, m⟩ := S4
  exact ⟨F, _, ⟨l1, l6, by simp, ⟨vs ++ [y], l1, [], by simp, a, rfl, DqAll.snoc q2 q⟩, b⟩, m⟩
theorem lc_lst {te : TE} {tt : TT} {g : TG} {ws : List Nat} {F : α → (Option β → Prop) → Prop} {e : α → PyData} {e' : β → PyData} {xs : List α} {vs : List V} {KK : List β → Prop} {a : Addr} (hf : xs.length ≤ 100000 ∧ lcD F xs [] KK) (S : M Rs H)
    (hrd : ∀ H, M Rs H → SqL K H a vs ∧ DqAll K H vs (xs.map e))
    (hs : ∀ (i : Nat) v x (acc : List β) E H (kk : Option β → Prop) (N : Hp → Prop), (acc.map e').length < 100000 → M (acR K E (acc.map e') :: Rs) H → vs[i]? = some v → xs[i]? = some x → F x kk →
      (∀ y H, kk (some y) → M (acR K E (acc.map e' ++ [e' y]) :: Rs) H → N H) → (∀ H, kk none → M (acR K E (acc.map e') :: Rs) H → N H) → g v (wipe σ ws) H fun σ2 H2 => wipe σ2 ws = wipe σ ws ∧ tt σ2 H2 fun b H3 =>
      if b = true then te σ2 H3 (LcK N E) else N H3)
    (hd : ∀ E (acc : List β) H, KK acc → M (acR K E (acc.map e') :: Rs) H → Q (.ref E) H) : LcW (Itl K a) g tt te ws σ Q H := by
  obtain ⟨hz, hf⟩ := hf
  have hl : vs.length = xs.length := by
    have := (hrd H S).2.len
    rwa [List.length_map] at this
  refine lc_X walk_list (fun E i H => ∃ acc, lcD F (xs.drop i) acc KK ∧ acc.length ≤ i ∧ M (acR K E (acc.map e') :: Rs) H) (fun E hE => ⟨[], by simpa using hf, Nat.le_refl _, acR_nil (S.new hE)⟩) (fun E i H _ ⟨acc, _, _, S⟩ => (hrd H S.tl).1) ?_ ?_
  · rintro E i v H H' hi ⟨acc, hf, ha, S⟩ ⟨rfl, hv⟩
    have hi2 : i < xs.length := by omega
    rw [List.drop_eq_getElem_cons hi2] at hf
    refine hs i v _ acc E H' _ _ (by rw [List.length_map]; omega) S hv (List.getElem?_eq_getElem hi2) hf (fun y H hk S => ⟨acc ++ [y], hk, by rw [List.length_append]; simpa using ha, by rw [List.map_append]; exact S⟩) (fun H hk S => ⟨acc, ?_, by omega, S⟩)
    simpa using hk
  · rintro E H ⟨acc, hf, ha, S⟩
    rw [hl, List.drop_length] at hf
    exact hd E acc H hf S
theorem lc_rng {te : TE} {tt : TT} {g : TG} {ws : List Nat} {F : Int → (Option β → Prop) → Prop} {e' : β → PyData} {n : Int} {KK : List β → Prop} (hf : (rng n).length ≤ 100000 ∧ lcD F (rng n) [] KK) (S : M Rs H)
    (hs : ∀ x (acc : List β) E H (kk : Option β → Prop) (N : Hp → Prop), (acc.map e').length < 100000 → M (acR K E (acc.map e') :: Rs) H → F x kk →
      (∀ y H, kk (some y) → M (acR K E (acc.map e' ++ [e' y]) :: Rs) H → N H) → (∀ H, kk none → M (acR K E (acc.map e') :: Rs) H → N H) → g (.int x) (wipe σ ws) H fun σ2 H2 => wipe σ2 ws = wipe σ ws ∧ tt σ2 H2 fun b H3 =>
      if b = true then te σ2 H3 (LcK N E) else N H3)
    (hd : ∀ E (acc : List β) H, KK acc → M (acR K E (acc.map e') :: Rs) H → Q (.ref E) H) : LcW (Itr 0 n.toNat) g tt te ws σ Q H := by
  obtain ⟨hz, hf⟩ := hf
  rw [rng_len] at hz
  refine lc_X walk_range (fun E i H => ∃ acc, lcD F ((rng n).drop i) acc KK ∧ acc.length ≤ i ∧ M (acR K E (acc.map e') :: Rs) H) (fun E hE => ⟨[], by simpa using hf, Nat.le_refl _, acR_nil (S.new hE)⟩) (fun E i H _ _ => trivial) ?_ ?_
  · rintro E i v H H' hi ⟨acc, hf, ha, S⟩ ⟨rfl, rfl⟩
    have hi2 : i < (rng n).length := by rw [rng_len]; exact hi
    rw [List.drop_eq_getElem_cons hi2] at hf
    have e : (rng n)[i] = (0 : Int) + (i : Nat) := Option.some.inj ((List.getElem?_eq_getElem hi2).symm.trans (rng_get hi))
    rw [e] at hf
    refine hs _ acc E H' _ _ (by rw [List.length_map]; omega) S hf (fun y H hk S => ⟨acc ++ [y], hk, by rw [List.length_append]; simpa using ha, by rw [List.map_append]; exact S⟩) (fun H hk S => ⟨acc, ?_, by omega, S⟩)
    simpa using hk
  · rintro E H ⟨acc, hf, ha, S⟩
    rw [← rng_len, List.drop_length] at hf
    exact hd E acc H hf S
/-! ### displays, items, slices, sums, copies -/
theorem M.fixG {p : Addr} {o : HO} {R : Res} {φ : Hp → Prop} (S : M (pt p o :: Rs) H) (h : EnF Rs φ) (k : ∀ F, φ F → F p = some o → R.on F []) : M (R :: Rs) H := by
  obtain ⟨F, L, ⟨l1, l2, rfl, ⟨rfl, fp⟩, s⟩, m⟩ := S.fix
  exact ⟨F, l2, ⟨[], l2, rfl, k F (h F l2 s) fp, s⟩, m⟩
theorem v_lstq {vs : List V} {ds : List PyData} (S : M Rs H) (h : EnF Rs (fun F => DqAll K F vs ds)) (hn : vs.length ≤ 100000) (k : ∀ p H', M (da K (.ref p) (.list ds) :: Rs) H' → Q (.ref p) H') : LstK Q vs H :=
  v_lst S hn fun p H' S' => k p H' (S'.fixG h fun F q fp => ⟨rfl, .lst (.inl (.inl fp)) q⟩)
theorem M.own {p : Addr} {vs : List V} {ds : List PyData} (S : M (pt p (.lst vs) :: Rs) H) (h : EnF Rs (fun F => DqAll K F vs ds)) : M (acR K p ds :: Rs) H := by
  obtain ⟨F, L, ⟨l1, l2, rfl, a, b⟩, m⟩ := S
  exact ⟨F, _, ⟨l1, l2, rfl, ⟨vs, l1, [], by simp, a, rfl, h F l2 b⟩, b⟩, m⟩
theorem v_lsto {vs : List V} {ds : List PyData} (S : M Rs H) (h : EnF Rs (fun F => DqAll K F vs ds)) (hn : vs.length ≤ 100000) (k : ∀ p H', M (acR K p ds :: Rs) H' → Q (.ref p) H') : LstK Q vs H :=
  v_lst S hn fun p H' S' => k p H' (S'.own h)
theorem v_tupq {vs : List V} {ds : List PyData} (S : M Rs H) (h : EnF Rs (fun F => DqAll K F vs ds)) (hn : vs.length ≤ 100000) (k : ∀ p H', M (da K (.ref p) (.tuple ds) :: Rs) H' → Q (.ref p) H') : TupK Q vs H :=
  v_tup S hn fun p H' S' => k p H' (S'.fixG h fun F q fp => ⟨rfl, .tup (.inl (.inl fp)) q⟩)
theorem atI_get {γ : Type} {xs : List γ} {i : Int} {x : γ} (h : atI xs i = some x) : ∃ j, ixN xs.length i = some j ∧ xs[j]? = some x := by
  unfold atI at h
  cases e : ixN xs.length i with
  | none => rw [e] at h; cases h
  | some j => rw [e] at h; exact ⟨j, rfl, h⟩
theorem atI_of {γ : Type} {xs : List γ} {i : Int} {x : γ} {j : Nat} (h1 : ixN xs.length i = some j) (h2 : xs[j]? = some x) : atI xs i = some x := by
  unfold atI
  rw [h1]
  exact h2
theorem DqAll.get {vs : List V} {ds : List PyData} {j : Nat} {d : PyData} (q : DqAll K H vs ds) (h : ds[j]? = some d) : ∃ v, vs[j]? = some v ∧ Dq K H v d := by
  have hj : j < vs.length := by rw [q.len]; exact (List.getElem?_eq_some_iff.mp h).1
  exact ⟨_, List.getElem?_eq_getElem hj, q.at (List.getElem?_eq_getElem hj) h⟩
theorem v_ixq {v : V} {ds : List PyData} {i : Int} {d : PyData} (S : M Rs H) (hj : EnF Rs (fun F => Dq K F v (.list ds)) ∨ EnF Rs (fun F => Dq K F v (.tuple ds))) (hx : atI ds i = some d) (k : ∀ u, M (da K u d :: Rs) H → Q u H) : uIx K v (.int i) H Q := by
  obtain ⟨j, h1, h2⟩ := atI_get hx
  obtain ⟨F, L, s, m⟩ := S
  rcases hj with hj | hj
  · cases hj F L s with
    | lst a q =>
      obtain ⟨u, h3, h4⟩ := q.get h2
      exact v_ixL (m.ex.sqL a) (atI_of (by rw [q.len]; exact h1) h3) (k u ⟨F, L, ⟨[], L, rfl, ⟨rfl, h4⟩, s⟩, m⟩)
  · cases hj F L s with
    | tup a q =>
      obtain ⟨u, h3, h4⟩ := q.get h2
      exact v_ixT (m.ex.sqT a) (atI_of (by rw [q.len]; exact h1) h3) (k u ⟨F, L, ⟨[], L, rfl, ⟨rfl, h4⟩, s⟩, m⟩)
theorem atI_map {γ δ : Type} {f : γ → δ} {xs : List γ} {i : Int} {x : γ} (h : atI xs i = some x) : atI (xs.map f) i = some (f x) := by
  obtain ⟨j, h1, h2⟩ := atI_get h
  exact atI_of (by rw [List.length_map]; exact h1) (by rw [List.getElem?_map, h2]; rfl)
theorem v_ixl {e : α → PyData} {v : V} {xs : List α} {i : Int} {x : α} (S : M Rs H) (j : Nat) (hj : Rs[j]? = some (da K v (eL e xs))) (hx : atI xs i = some x) (k : ∀ u, M (da K u (e x) :: Rs) H → Q u H) : uIx K v (.int i) H Q :=
  v_ixq S (.inl (EnF.at j hj)) (atI_map hx) k
theorem v_ixv {e : α → PyData} {v : V} {xs : List α} {i : Int} {x : α} (S : M Rs H) (j : Nat) (hj : Rs[j]? = some (da K v (eV e xs))) (hx : atI xs i = some x) (k : ∀ u, M (da K u (e x) :: Rs) H → Q u H) : uIx K v (.int i) H Q :=
  v_ixq S (.inr (EnF.at j hj)) (atI_map hx) k
theorem v_ixt {v : V} {ds : List PyData} {i : Int} {d : PyData} (S : M Rs H) (j : Nat) (hj : Rs[j]? = some (da K v (.tuple ds))) (hx : atI ds i = some d) (k : ∀ u, M (da K u d :: Rs) H → Q u H) : uIx K v (.int i) H Q :=
  v_ixq S (.inr (EnF.at j hj)) hx k
theorem v_ixo {e : α → PyData} {p : Addr} {xs : List α} {i : Int} {x : α} (S : M Rs H) (j : Nat) (hj : Rs[j]? = some (acR K p (xs.map e))) (hx : atI xs i = some x) (k : ∀ u, M (da K u (e x) :: Rs) H → Q u H) : uIx K (.ref p) (.int i) H Q := by
  obtain ⟨n, h1, h2⟩ := atI_get hx
  obtain ⟨vs, S1⟩ := (S.at j hj).ex
  have S2 := S1.sp
  have h3 : (xs.map e)[n]? = some (e x) := by rw [List.getElem?_map, h2]; rfl
  obtain ⟨u, h4, h5⟩ := (S2.gotAA 1 rfl).get h3
  have hl := (S2.gotAA 1 rfl).len
  rw [List.length_map] at hl
  refine v_ixL (SqL.of (S2.got 0 rfl)) (atI_of (by rw [hl]; exact h1) h4) (k u ?_)
  have S3 := S2.elA 1 rfl h4 h2
  obtain ⟨F, L, ⟨l0, l1, rfl, ⟨rfl, q⟩, l2, l3, rfl, a, l4, l5, rfl, ⟨rfl, q2⟩, b⟩, m⟩ := S3
  have b' : Sat F (acR K p (xs.map e) :: Rs.eraseIdx j) (l2 ++ l5) := ⟨l2, l5, rfl, ⟨vs, l2, [], by simp, a, rfl, q2⟩, b⟩
  obtain ⟨L', pp, sat⟩ := b'.perm (perm_at j hj).symm
  exact ⟨F, L', ⟨[], L', rfl, ⟨rfl, q⟩, sat⟩, m.perm (by simpa using pp)⟩
theorem Dq.intV {v : V} {i : Int} (h : Dq K H v (.int i)) : v = .int i := by cases h; rfl
theorem Dq.strV {v : V} {i : Str} (h : Dq K H v (.str i)) : v = .str i := by cases h; rfl
theorem Dq.blV {v : V} {i : Bool} (h : Dq K H v (.bool i)) : v = .bl i := by cases h; rfl
theorem Dq.nonV {v : V} (h : Dq K H v .none) : v = .non := by cases h; rfl
theorem DqAll.takeA : ∀ {vs : List V} {ds : List PyData}, DqAll K H vs ds → ∀ n, DqAll K H (vs.take n) (ds.take n)
  | _, _, .nil, n => by
    rw [List.take_nil, List.take_nil]
    exact .nil
  | _, _, .cons a r, 0 => .nil
  | _, _, .cons a r, n + 1 => .cons a (DqAll.takeA r n)
theorem DqAll.dropA : ∀ {vs : List V} {ds : List PyData}, DqAll K H vs ds → ∀ n, DqAll K H (vs.drop n) (ds.drop n)
  | _, _, .nil, n => by
    rw [List.drop_nil, List.drop_nil]
    exact .nil
  | _, _, .cons a r, 0 => .cons a r
  | _, _, .cons a r, n + 1 => DqAll.dropA r n
theorem DqAll.app : ∀ {vs ws : List V} {ds es : List PyData}, DqAll K H vs ds → DqAll K H ws es → DqAll K H (vs ++ ws) (ds ++ es)
  | _, _, _, _, .nil, h => h
  | _, _, _, _, .cons a r, h => .cons a (DqAll.app r h)
theorem DqAll.cut {vs : List V} {ds : List PyData} (q : DqAll K H vs ds) (lo hi : Option Int) : DqAll K H (cutV vs lo hi) (cutL ds lo hi) := by
  unfold cutV cutL
  rw [q.len]
  exact (q.dropA _).takeA _
theorem cutL_map {γ δ : Type} (f : γ → δ) (xs : List γ) (lo hi : Option Int) : cutL (xs.map f) lo hi = (cutL xs lo hi).map f := by
  unfold cutL
  rw [List.length_map, List.map_take, List.map_drop]
theorem len_ok {n : Nat} (h : Nat.ble n 100000 = true) : n ≤ 100000 := Nat.le_of_ble_eq_true h
theorem acR_fixL {e : α → PyData} {E : Addr} {xs : List α} (S : M (acR K E (xs.map e) :: Rs) H) : M (da K (.ref E) (eL e xs) :: Rs) H := acR_fix S
theorem v_slq {e : α → PyData} {v : V} {xs : List α} {lo hi : Option Int} (S : M Rs H) (j : Nat) (hj : Rs[j]? = some (da K v (eL e xs))) (k : ∀ p H', M (acR K p ((cutL xs lo hi).map e) :: Rs) H' → Q (.ref p) H') : uSl K v lo hi H Q := by
  obtain ⟨F, L, s, m⟩ := S
  have d := EnF.at j hj F L s
  cases d with
  | lst a q =>
    refine v_slL (⟨F, L, ⟨[], L, rfl, ⟨rfl, q⟩, s⟩, m⟩ : M (daA K _ (xs.map e) :: Rs) H) (m.ex.sqL a) fun p H' S' => k p H' ?_
    obtain ⟨F, L, ⟨l1, l2, rfl, a1, l3, l4, rfl, ⟨rfl, q1⟩, b⟩, m⟩ := S'
    exact ⟨F, _, ⟨l1, l4, rfl, ⟨_, l1, [], by simp, a1, rfl, by rw [← cutL_map]; exact q1.cut lo hi⟩, b⟩, m⟩
theorem v_catq {e : α → PyData} {v w : V} {xs ys : List α} (S : M Rs H) (i j : Nat) (hi : Rs[i]? = some (da K v (eL e xs))) (hj : Rs[j]? = some (da K w (eL e ys))) (hz : xs.length + ys.length ≤ 100000) (k : ∀ p H', M (acR K p ((xs ++ ys).map e) :: Rs) H' → Q (.ref p) H') : uAdd K v w H Q := by
  obtain ⟨F, L, s, m⟩ := S
  have d := EnF.at i hi F L s
  have d' := EnF.at j hj F L s
  cases d with
  | lst a q =>
    cases d' with
    | lst a' q' =>
      have l1 := q.len
      have l2 := q'.len
      rw [List.length_map] at l1 l2
      refine v_catS (⟨F, L, ⟨[], L, rfl, ⟨rfl, q.app q'⟩, s⟩, m⟩ : M (daA K _ (xs.map e ++ ys.map e) :: Rs) H) (m.ex.sqL a) (m.ex.sqL a') (by rw [l1, l2]; exact hz) fun p H' S' => k p H' ?_
      obtain ⟨F, L, ⟨l1, l2, rfl, a1, l3, l4, rfl, ⟨rfl, q1⟩, b⟩, m⟩ := S'
      exact ⟨F, _, ⟨l1, l4, rfl, ⟨_, l1, [], by simp, a1, rfl, by rw [List.map_append]; exact q1⟩, b⟩, m⟩
/-- list(x) of a list, of a tuple -/
theorem v_liq {e : α → PyData} {v : V} {xs : List α} (S : M Rs H) (h : EnF Rs (fun F => Dq K F v (eL e xs)) ∨ EnF Rs (fun F => Dq K F v (eV e xs))) (k : ∀ p H', M (acR K p (xs.map e) :: Rs) H' → Q (.ref p) H') : rListOf K [v] H Q := by
  obtain ⟨F, L, s, m⟩ := S
  obtain ⟨a, vs, rfl, hs, q⟩ : ∃ a vs, v = .ref a ∧ (SqL K F a vs ∨ SqT K F a vs) ∧ DqAll K F vs (xs.map e) := by
    rcases h with h | h
    · cases h F L s with
      | lst a q => exact ⟨_, _, rfl, .inl a, q⟩
    · cases h F L s with
      | tup a q => exact ⟨_, _, rfl, .inr a, q⟩
  refine v_list (⟨F, L, ⟨[], L, rfl, ⟨rfl, q⟩, s⟩, m⟩ : M (daA K _ (xs.map e) :: Rs) H) (hs.imp (fun z => m.ex.sqL z) (fun z => m.ex.sqT z)) fun p H' S' => k p H' ?_
  obtain ⟨F, L, ⟨l1, l2, rfl, a1, l3, l4, rfl, ⟨rfl, q1⟩, b⟩, m⟩ := S'
  exact ⟨F, _, ⟨l1, l4, rfl, ⟨_, l1, [], by simp, a1, rfl, q1⟩, b⟩, m⟩
/-- list(x) of one's own list -/
theorem v_lio {p0 : Addr} {ds : List PyData} (S : M Rs H) (j : Nat) (hj : Rs[j]? = some (acR K p0 ds)) (k : ∀ p H', M (acR K p ds :: Rs) H' → Q (.ref p) H') : rListOf K [.ref p0] H Q := by
  obtain ⟨vs, S1⟩ := (S.at j hj).ex
  have S2 := S1.sp
  refine v_list S2 (.inl (SqL.of (S2.got 0 rfl))) fun p H' S' => k p H' ?_
  obtain ⟨F, L, ⟨l1, l2, rfl, a1, l3, l4, rfl, a2, l5, l6, rfl, ⟨rfl, q⟩, b⟩, m⟩ := S'
  have b' : Sat F (acR K p0 ds :: Rs.eraseIdx j) (l3 ++ l6) := ⟨l3, l6, rfl, ⟨vs, l3, [], by simp, a2, rfl, q⟩, b⟩
  obtain ⟨L', pp, sat⟩ := b'.perm (perm_at j hj).symm
  exact ⟨F, l1 ++ L', ⟨l1, L', rfl, ⟨vs, l1, [], by simp, a1, rfl, q⟩, sat⟩, m.perm (by simpa using pp.append_left l1)⟩
theorem v_lenq {v : V} {ds : List PyData} (S : M Rs H) (h : EnF Rs (fun F => Dq K F v (.list ds)) ∨ EnF Rs (fun F => Dq K F v (.tuple ds))) (k : Q (.int (ds.length : Nat)) H) : uLen K [v] H Q := by
  obtain ⟨F, L, s, m⟩ := S
  rcases h with h | h
  · cases h F L s with
    | lst a q => exact .inl ⟨_, _, rfl, .inl ⟨_, m.ex.sqL a, q.len.symm⟩, k⟩
  · cases h F L s with
    | tup a q => exact .inl ⟨_, _, rfl, .inr ⟨_, m.ex.sqT a, q.len.symm⟩, k⟩
theorem v_lenl {e : α → PyData} {v : V} {xs : List α} (S : M Rs H) (j : Nat) (hj : Rs[j]? = some (da K v (eL e xs))) (k : Q (.int (xs.length : Nat)) H) : uLen K [v] H Q :=
  v_lenq S (.inl (EnF.at j hj)) (by rw [List.length_map]; exact k)
theorem v_lenv {e : α → PyData} {v : V} {xs : List α} (S : M Rs H) (j : Nat) (hj : Rs[j]? = some (da K v (eV e xs))) (k : Q (.int (xs.length : Nat)) H) : uLen K [v] H Q :=
  v_lenq S (.inr (EnF.at j hj)) (by rw [List.length_map]; exact k)
theorem v_leno {e : α → PyData} {p : Addr} {xs : List α} (S : M Rs H) (j : Nat) (hj : Rs[j]? = some (acR K p (xs.map e))) (k : Q (.int (xs.length : Nat)) H) : uLen K [.ref p] H Q := by
  obtain ⟨vs, S1⟩ := (S.at j hj).ex
  have S2 := S1.sp
  have hl := (S2.gotAA 1 rfl).len
  rw [List.length_map] at hl
  exact v_lenL (SqL.of (S2.got 0 rfl)) (by rw [hl]; exact k)
theorem M.tyO {p : Addr} {ds : List PyData} {φ : Prop} (S : M Rs H) (j : Nat) (hj : Rs[j]? = some (acR K p ds)) (k : φ) : tyV K "list" (.ref p) H ∧ φ := by
  obtain ⟨vs, S1⟩ := (S.at j hj).ex
  exact v_tyL (SqL.of (S1.sp.got 0 rfl)) k
theorem v_apo {p : Addr} {ds : List PyData} {y : V} {d : PyData} (S : M Rs H) (j : Nat) (hj : Rs[j]? = some (acR K p ds)) (h : EnF Rs (fun F => Dq K F y d)) (hz : ds.length < 100000) (k : ∀ H', M (acR K p (ds ++ [d]) :: Rs.eraseIdx j) H' → Q .non H') : rAppend (.ref p) [y] H Q := by
  have S0 : M (da K y d :: Rs) H := S.addA h
  have S1 : M (acR K p ds :: da K y d :: Rs.eraseIdx j) H := (S0.at (j + 1) (by simpa using hj))
  obtain ⟨vs, S2⟩ := S1.ex
  have S3 := S2.sp
  have hl : vs.length = ds.length := (S3.gotAA 1 rfl).len
  refine v_app S3 0 rfl (by rw [hl]; exact hz) fun H' S4 => k H' ?_
  obtain ⟨F, L, ⟨l1, l2, rfl, a, l3, l4, rfl, ⟨rfl, q⟩, l5, l6, rfl, ⟨rfl, q2⟩, b⟩, m⟩ := S4
  exact ⟨F, _, ⟨l1, l6, by simp, ⟨vs ++ [y], l1, [], by simp, a, rfl, DqAll.snoc q2 q⟩, b⟩, m⟩
theorem v_apl {e : α → PyData} {p : Addr} {xs : List α} {y : V} {x : α} (S : M Rs H) (j : Nat) (hj : Rs[j]? = some (acR K p (xs.map e))) (h : EnF Rs (fun F => Dq K F y (e x))) (hz : xs.length < 100000) (k : ∀ H', M (acR K p ((xs ++ [x]).map e) :: Rs.eraseIdx j) H' → Q .non H') : rAppend (.ref p) [y] H Q :=
  v_apo S j hj h (by rw [List.length_map]; exact hz) fun H' S' => k H' (by rw [List.map_append]; exact S')
theorem DqAll.setA {v : V} {d : PyData} (h : Dq K H v d) : ∀ {vs : List V} {ds : List PyData}, DqAll K H vs ds → ∀ n, DqAll K H (vs.set n v) (ds.set n d)
  | _, _, .nil, _ => .nil
  | _, _, .cons a r, 0 => .cons h r
  | _, _, .cons a r, n + 1 => .cons a (DqAll.setA h r n)
theorem v_setl {e : α → PyData} {p : Addr} {xs : List α} {y : V} {x : α} {i : Int} {n : Nat} {Q : Hp → Prop} (S : M Rs H) (j : Nat) (hj : Rs[j]? = some (acR K p (xs.map e))) (hx : ixN xs.length i = some n) (h : EnF Rs (fun F => Dq K F y (e x)))
    (k : ∀ H', M (acR K p ((xs.set n x).map e) :: Rs.eraseIdx j) H' → Q H') : uSet (.ref p) (.int i) y H Q := by
  have S0 : M (da K y (e x) :: Rs) H := S.addA h
  have S1 : M (acR K p (xs.map e) :: da K y (e x) :: Rs.eraseIdx j) H := (S0.at (j + 1) (by simpa using hj))
  obtain ⟨vs, S2⟩ := S1.ex
  have S3 := S2.sp
  have hl : vs.length = xs.length := by
    have := (S3.gotAA 1 rfl).len
    rwa [List.length_map] at this
  refine v_set S3 0 rfl (j := n) (by rw [hl]; exact hx) fun H' S4 => k H' ?_
  obtain ⟨F, L, ⟨l1, l2, rfl, a, l3, l4, rfl, ⟨rfl, q⟩, l5, l6, rfl, ⟨rfl, q2⟩, b⟩, m⟩ := S4
  exact ⟨F, _, ⟨l1, l6, by simp, ⟨vs.set n y, l1, [], by simp, a, rfl, by rw [List.map_set]; exact DqAll.setA q2 q n⟩, b⟩, m⟩
end
end RC

namespace RC
open PySem PySem.Spec PyProof.Rows L2
/-! ### dicts of one's own -/
section
variable {κ α : Type} [DecidableEq κ]
def lk (m : List (κ × α)) (k : κ) : Option α := (m.find? fun p => decide (p.1 = k)).map (·.2)
def pk (m : List (κ × α)) (k : κ) (x : α) : List (κ × α) := if (m.any fun p => decide (p.1 = k)) = true then m.map (fun p => if p.1 = k then (p.1, x) else p) else m ++ [(k, x)]
def dk (m : List (κ × α)) (k : κ) : List (κ × α) := m.filter fun p => decide (p.1 ≠ k)
def ks (m : List (κ × α)) : List κ := m.map (·.1)
theorem lk_cons (p : κ × α) (m : List (κ × α)) (k : κ) : lk (p :: m) k = if p.1 = k then some p.2 else lk m k := by
  unfold lk
  rw [List.find?_cons]
  by_cases h : p.1 = k
  · simp [h]
  · simp [h]
theorem any_lk (m : List (κ × α)) (k : κ) : (m.any fun p => decide (p.1 = k)) = (lk m k).isSome := by
  induction m with
  | nil => rfl
  | cons p m ih =>
    rw [List.any_cons, ih, lk_cons]
    by_cases h : p.1 = k
    · simp [h]
    · simp [h]
end
inductive TKv {κ α : Type} (K : PySem.W.Frag) (H : Hp) (ik : κ → Key) (e : α → PyData) : List (Key × V) → List (κ × α) → Prop
  | nil : TKv K H ik e [] []
  | cons {k : κ} {v : V} {x : α} {r : List (Key × V)} {m : List (κ × α)} (h : Dq K H v (e x)) (t : TKv K H ik e r m) : TKv K H ik e ((ik k, v) :: r) ((k, x) :: m)
section
variable {κ α : Type} {K : PySem.W.Frag} {H H' : Hp} {ik : κ → Key} {e : α → PyData} {kvs : List (Key × V)} {m : List (κ × α)}
theorem TKv.ext (x : Ext H H') : ∀ {kvs : List (Key × V)} {m : List (κ × α)}, TKv K H ik e kvs m → TKv K H' ik e kvs m
  | _, _, .nil => .nil
  | _, _, .cons h t => .cons (Dq_ext x h) (TKv.ext x t)
theorem TKv.kv : ∀ {kvs : List (Key × V)} {m : List (κ × α)}, TKv K H ik e kvs m → DqKv K H kvs (m.map fun p => (kD (ik p.1), e p.2))
  | _, _, .nil => .nil
  | _, _, .cons h t => .cons h (TKv.kv t)
theorem TKv.len : ∀ {kvs : List (Key × V)} {m : List (κ × α)}, TKv K H ik e kvs m → kvs.length = m.length
  | _, _, .nil => rfl
  | _, _, .cons h t => by rw [List.length_cons, List.length_cons, TKv.len t]
theorem TKv.keys : ∀ {kvs : List (Key × V)} {m : List (κ × α)}, TKv K H ik e kvs m → kvs.map (·.1) = (ks m).map ik
  | _, _, .nil => rfl
  | _, _, .cons h t => by
    have := TKv.keys t
    simp only [ks, List.map_cons] at this ⊢
    rw [this]
variable [DecidableEq κ]
theorem TKv.some (inj : ∀ a b, ik a = ik b → a = b) {k : κ} {x : α} : ∀ {kvs : List (Key × V)} {m : List (κ × α)}, TKv K H ik e kvs m → lk m k = some x → ∃ v, valV kvs (ik k) = Option.some v ∧ Dq K H v (e x)
  | _, _, .nil, h => by cases h
  | _, _, .cons (k := k') h t, g => by
    rw [lk_cons] at g
    by_cases z : k' = k
    · subst z
      rw [if_pos rfl] at g
      cases g
      exact ⟨_, valV_pos rfl, h⟩
    · rw [if_neg z] at g
      obtain ⟨v, a, b⟩ := TKv.some inj t g
      exact ⟨v, by rw [valV_neg (fun q => z (inj _ _ q))]; exact a, b⟩
theorem TKv.none (inj : ∀ a b, ik a = ik b → a = b) {k : κ} : ∀ {kvs : List (Key × V)} {m : List (κ × α)}, TKv K H ik e kvs m → lk m k = none → valV kvs (ik k) = Option.none
  | _, _, .nil, h => rfl
  | _, _, .cons (k := k') h t, g => by
    rw [lk_cons] at g
    by_cases z : k' = k
    · subst z
      rw [if_pos rfl] at g
      cases g
    · rw [if_neg z] at g
      rw [valV_neg (fun q => z (inj _ _ q))]
      exact TKv.none inj t g
theorem TKv.isSome (inj : ∀ a b, ik a = ik b → a = b) (t : TKv K H ik e kvs m) (k : κ) : (valV kvs (ik k)).isSome = (lk m k).isSome := by
  cases h : lk m k with
  | none =>
    rw [t.none inj h]
    rfl
  | some x =>
    obtain ⟨v, a, _⟩ := t.some inj h
    rw [a]
    rfl
theorem TKv.app {r : List (Key × V)} {n : List (κ × α)} (b : TKv K H ik e r n) : ∀ {kvs : List (Key × V)} {m : List (κ × α)}, TKv K H ik e kvs m → TKv K H ik e (kvs ++ r) (m ++ n)
  | _, _, .nil => b
  | _, _, .cons h t => .cons h (TKv.app b t)
theorem TKv.upd (inj : ∀ a b, ik a = ik b → a = b) {k : κ} {x : α} {v : V} (d : Dq K H v (e x)) : ∀ {kvs : List (Key × V)} {m : List (κ × α)}, TKv K H ik e kvs m →
    TKv K H ik e (kvs.map fun kv => if kv.1 = ik k then (kv.1, v) else kv) (m.map fun p => if p.1 = k then (p.1, x) else p)
  | _, _, .nil => .nil
  | _, _, .cons (k := k') h t => by
    rw [List.map_cons, List.map_cons]
    by_cases z : k' = k
    · subst z
      rw [if_pos rfl, if_pos rfl]
      exact .cons d (TKv.upd inj d t)
    · rw [if_neg (fun q => z (inj _ _ q)), if_neg z]
      exact .cons h (TKv.upd inj d t)
theorem TKv.put (inj : ∀ a b, ik a = ik b → a = b) {k : κ} {x : α} {v : V} (t : TKv K H ik e kvs m) (d : Dq K H v (e x)) : TKv K H ik e (putK kvs (ik k) v) (pk m k x) := by
  unfold putK pk
  rw [any_lk m k, valV_any (ik k) kvs, t.isSome inj]
  cases lk m k with
  | none =>
    rw [if_neg (by simp), if_neg (by simp)]
    exact TKv.app (.cons d .nil) t
  | some y =>
    rw [if_pos (by rfl), if_pos (by rfl)]
    exact TKv.upd inj d t
theorem TKv.drop (inj : ∀ a b, ik a = ik b → a = b) {k : κ} : ∀ {kvs : List (Key × V)} {m : List (κ × α)}, TKv K H ik e kvs m → TKv K H ik e (dropK kvs (ik k)) (dk m k)
  | _, _, .nil => .nil
  | _, _, .cons (k := k') h t => by
    have ih := TKv.drop (k := k) inj t
    unfold dropK dk at ih ⊢
    by_cases z : k' = k
    · subst z
      rw [List.filter_cons_of_neg (by simp), List.filter_cons_of_neg (by simp)]
      exact ih
    · rw [List.filter_cons_of_pos (by simpa using fun q => z (inj _ _ q)), List.filter_cons_of_pos (by simpa using z)]
      exact .cons h ih
end
theorem injI (a b : Int) (h : iI a = iI b) : a = b := Sum.inl.inj h
theorem injS (a b : Str) (h : iS a = iS b) : a = b := Sum.inr.inj h
section
variable {κ α : Type} {K : PySem.W.Frag} {ik : κ → Key} {e : α → PyData} {m : List (κ × α)} {Rs : List Res} {H : Hp} {Q : VK} {σ : L2.St} {D : Ends} {p : Addr}
def tkR (K : PySem.W.Frag) (ik : κ → Key) (e : α → PyData) (kvs : List (Key × V)) (m : List (κ × α)) : Res := ⟨fun F l => l = [] ∧ TKv K F ik e kvs m, fun _ _ _ x h => ⟨h.1, TKv.ext x h.2⟩⟩
def adR (K : PySem.W.Frag) (ik : κ → Key) (e : α → PyData) (p : Addr) (m : List (κ × α)) : Res := exi fun kvs => sp2 (pt p (.dK kvs)) (tkR K ik e kvs m)
theorem M.gotT {kvs : List (Key × V)} (S : M Rs H) (i : Nat) (h : Rs[i]? = some (tkR K ik e kvs m)) : TKv K H ik e kvs m := by
  obtain ⟨F, L, s, mm⟩ := S
  obtain ⟨l, h⟩ := s.get i h
  exact TKv.ext mm.ex h.2
theorem adR_open (S : M Rs H) (j : Nat) (hj : Rs[j]? = some (adR K ik e p m)) : ∃ kvs, M (pt p (.dK kvs) :: tkR K ik e kvs m :: Rs.eraseIdx j) H := by
  obtain ⟨kvs, S1⟩ := (S.at j hj).ex
  exact ⟨kvs, S1.sp⟩
theorem adR_close {kvs : List (Key × V)} (S : M (pt p (.dK kvs) :: tkR K ik e kvs m :: Rs) H) : M (adR K ik e p m :: Rs) H := M.ex' (T := fun kvs => sp2 (pt p (.dK kvs)) (tkR K ik e kvs m)) kvs S.sp'
theorem adR_back {kvs : List (Key × V)} (j : Nat) (hj : Rs[j]? = some (adR K ik e p m)) (S : M (pt p (.dK kvs) :: tkR K ik e kvs m :: Rs.eraseIdx j) H) : M Rs H := (adR_close S).perm (perm_at j hj).symm
theorem v_dnewo (S : M Rs H) (k : ∀ p H', M (adR K ik e p ([] : List (κ × α)) :: Rs) H' → Q (.ref p) H') : tDNewK σ H Q := v_dnew S fun p H' S' => k p H' (by
  obtain ⟨F, L, ⟨l1, l2, rfl, a, b⟩, mm⟩ := S'
  exact ⟨F, _, ⟨l1, l2, rfl, ⟨[], l1, [], by simp, a, rfl, .nil⟩, b⟩, mm⟩)
theorem M.gotDk (S : M Rs H) (j : Nat) (hj : Rs[j]? = some (adR K ik e p m)) : ∃ kvs, H p = some (.dK kvs) ∧ TKv K H ik e kvs m := by
  obtain ⟨kvs, S1⟩ := adR_open S j hj
  exact ⟨kvs, S1.got 0 rfl, S1.gotT 1 rfl⟩
theorem v_lend (S : M Rs H) (j : Nat) (hj : Rs[j]? = some (adR K ik e p m)) (k : Q (.int (m.length : Nat)) H) : uLen K [.ref p] H Q := by
  obtain ⟨kvs, h, t⟩ := S.gotDk j hj
  exact v_lenD h (by rw [t.len]; exact k)
variable [DecidableEq κ]
theorem v_indS {e : α → PyData} {m : List (Str × α)} {n : Str} (S : M Rs H) (j : Nat) (hj : Rs[j]? = some (adR K iS e p m)) (k : Q (.bl (lk m n).isSome) H) : uIn K (.str n) (.ref p) H Q := by
  obtain ⟨kvs, h, t⟩ := S.gotDk j hj
  exact v_inKS h (by rw [show (Sum.inr n : Key) = iS n from rfl, t.isSome injS]; exact k)
theorem v_nindS {e : α → PyData} {m : List (Str × α)} {n : Str} (S : M Rs H) (j : Nat) (hj : Rs[j]? = some (adR K iS e p m)) (k : Q (.bl (!(lk m n).isSome)) H) : uNotIn K (.str n) (.ref p) H Q := by
  obtain ⟨kvs, h, t⟩ := S.gotDk j hj
  exact v_ninKS h (by rw [show (Sum.inr n : Key) = iS n from rfl, t.isSome injS]; exact k)
theorem v_indI {e : α → PyData} {m : List (Int × α)} {n : Int} (S : M Rs H) (j : Nat) (hj : Rs[j]? = some (adR K iI e p m)) (k : Q (.bl (lk m n).isSome) H) : uIn K (.int n) (.ref p) H Q := by
  obtain ⟨kvs, h, t⟩ := S.gotDk j hj
  exact v_inK h (by rw [show (Sum.inl n : Key) = iI n from rfl, t.isSome injI]; exact k)
theorem v_nindI {e : α → PyData} {m : List (Int × α)} {n : Int} (S : M Rs H) (j : Nat) (hj : Rs[j]? = some (adR K iI e p m)) (k : Q (.bl (!(lk m n).isSome)) H) : uNotIn K (.int n) (.ref p) H Q := by
  obtain ⟨kvs, h, t⟩ := S.gotDk j hj
  exact v_ninK h (by rw [show (Sum.inl n : Key) = iI n from rfl, t.isSome injI]; exact k)
/-- d[k] -/
theorem ixd_core {k : κ} {x : α} (inj : ∀ a b, ik a = ik b → a = b) (S : M Rs H) (j : Nat) (hj : Rs[j]? = some (adR K ik e p m)) (hx : lk m k = some x) : ∃ kvs v, H p = some (.dK kvs) ∧ valV kvs (ik k) = some v ∧ M (da K v (e x) :: Rs) H := by
  obtain ⟨kvs, S1⟩ := adR_open S j hj
  obtain ⟨F, L, ⟨l1, l2, rfl, a, l3, l4, rfl, ⟨rfl, t⟩, b⟩, mm⟩ := id S1
  obtain ⟨v, h1, h2⟩ := t.some inj hx
  refine ⟨kvs, v, S1.got 0 rfl, h1, ?_⟩
  have b' : Sat F (adR K ik e p m :: Rs.eraseIdx j) (l1 ++ l4) := ⟨l1, l4, rfl, ⟨kvs, l1, [], by simp, a, rfl, t⟩, b⟩
  obtain ⟨L', pp, sat⟩ := b'.perm (perm_at j hj).symm
  exact ⟨F, L', ⟨[], L', rfl, ⟨rfl, h2⟩, sat⟩, mm.perm (by simpa using pp)⟩
theorem v_ixdS {e : α → PyData} {m : List (Str × α)} {n : Str} {x : α} (S : M Rs H) (j : Nat) (hj : Rs[j]? = some (adR K iS e p m)) (hx : lk m n = some x) (k : ∀ u, M (da K u (e x) :: Rs) H → Q u H) : rIxK (.ref p) (.str n) H Q := by
  obtain ⟨kvs, v, h1, h2, S2⟩ := ixd_core injS S j hj hx
  exact v_ixKS h1 h2 (k v S2)
theorem v_ixdI {e : α → PyData} {m : List (Int × α)} {n : Int} {x : α} (S : M Rs H) (j : Nat) (hj : Rs[j]? = some (adR K iI e p m)) (hx : lk m n = some x) (k : ∀ u, M (da K u (e x) :: Rs) H → Q u H) : rIxK (.ref p) (.int n) H Q := by
  obtain ⟨kvs, v, h1, h2, S2⟩ := ixd_core injI S j hj hx
  exact v_ixK h1 h2 (k v S2)
/-- d[k] = v -/
theorem putd_core {k : κ} {x : α} {y : V} (inj : ∀ a b, ik a = ik b → a = b) (S : M Rs H) (j : Nat) (hj : Rs[j]? = some (adR K ik e p m)) (h : EnF Rs (fun F => Dq K F y (e x))) :
    ∃ kvs, H p = some (.dK kvs) ∧ kvs.length = m.length ∧ M (adR K ik e p (pk m k x) :: Rs.eraseIdx j) (upd H p (.dK (putK kvs (ik k) y))) := by
  have S0 : M (da K y (e x) :: Rs) H := S.addA h
  obtain ⟨kvs, S1⟩ := adR_open S0 (j + 1) (by simpa using hj)
  have hl := (S1.gotT 1 rfl).len
  refine ⟨kvs, S1.got 0 rfl, hl, ?_⟩
  have S2 := S1.putAt (o' := .dK (putK kvs (ik k) y)) 0 rfl
  obtain ⟨F, L, ⟨l1, l2, rfl, a, l3, l4, rfl, ⟨rfl, t⟩, l5, l6, rfl, ⟨rfl, d⟩, b⟩, mm⟩ := S2
  exact ⟨F, _, ⟨l1, l6, by simp, ⟨_, l1, [], by simp, a, rfl, t.put inj d⟩, b⟩, mm⟩
theorem v_putdS {e : α → PyData} {m : List (Str × α)} {n : Str} {x : α} {y : V} {Q : Hp → Prop} (S : M Rs H) (j : Nat) (hj : Rs[j]? = some (adR K iS e p m)) (h : EnF Rs (fun F => Dq K F y (e x))) (hz : m.length < 100000)
    (k : ∀ H', M (adR K iS e p (pk m n x) :: Rs.eraseIdx j) H' → Q H') : uSet (.ref p) (.str n) y H Q := by
  obtain ⟨kvs, h1, h2, S2⟩ := putd_core (k := n) injS S j hj h
  exact .inr ⟨p, _, rfl, DPut.k (k := Sum.inr n) h1 (Nat.lt_of_lt_of_le (by rw [h2]; exact hz) (by decide)), k _ S2⟩
theorem v_putdI {e : α → PyData} {m : List (Int × α)} {n : Int} {x : α} {y : V} {Q : Hp → Prop} (S : M Rs H) (j : Nat) (hj : Rs[j]? = some (adR K iI e p m)) (h : EnF Rs (fun F => Dq K F y (e x))) (hz : m.length < 100000)
    (k : ∀ H', M (adR K iI e p (pk m n x) :: Rs.eraseIdx j) H' → Q H') : uSet (.ref p) (.int n) y H Q := by
  obtain ⟨kvs, h1, h2, S2⟩ := putd_core (k := n) injI S j hj h
  exact .inr ⟨p, _, rfl, DPut.k (k := Sum.inl n) h1 (Nat.lt_of_lt_of_le (by rw [h2]; exact hz) (by decide)), k _ S2⟩
/-- freezing: behind an expression a thing may be locked for ever -/
def FzK (Q : VK) : VK := fun v H => Q v H ∨ ∃ d u, H d = some u ∧ Mut (some u) ∧ ∀ od, Q v (upd H d (.frz od u))
def tFzE (t : TE) : TE := fun σ H Q => t σ H (FzK Q)
theorem pe_fz {X : Cx} {x : Expr} {t : TE} (h : PE X x t) : PE X x (tFzE t) := ⟨fun pins s σ H Q I hw => thn (h.run pins s σ H _ I hw) fun v s1 ⟨y, H1, I1, r, q⟩ => by
  rcases q with q | ⟨d, u, hd, mu, q⟩
  · exact ⟨y, H1, I1, r, q⟩
  · obtain ⟨od, I2⟩ := I1.lock hd mu
    exact ⟨y, _, I2, r, q od⟩⟩
theorem v_fz0 {v : V} (k : Q v H) : FzK Q v H := .inl k
theorem adR_frz {kvs : List (Key × V)} {od : Obj} (S : M (pt p (.dK kvs) :: tkR K ik e kvs m :: Rs) H) : M (da K (.ref p) (eD ik e m) :: Rs) (upd H p (.frz od (.dK kvs))) := by
  have S1 : M (pt p (.frz od (.dK kvs)) :: tkR K ik e kvs m :: Rs) (upd H p (.frz od (.dK kvs))) := S.putAt 0 rfl
  obtain ⟨F, L, ⟨l1, l2, rfl, ⟨rfl, fp⟩, l3, l4, rfl, ⟨rfl, t⟩, b⟩, mm⟩ := S1.fix
  exact ⟨F, l4, ⟨[], l4, rfl, ⟨rfl, .dct fp t.kv⟩, b⟩, mm⟩
/-- a dict of one's own is data from now on -/
theorem v_fzD {v : V} (S : M Rs H) (j : Nat) (hj : Rs[j]? = some (adR K ik e p m)) (k : ∀ H', M (da K (.ref p) (eD ik e m) :: Rs.eraseIdx j) H' → Q v H') : FzK Q v H := by
  obtain ⟨kvs, S1⟩ := adR_open S j hj
  exact .inr ⟨p, .dK kvs, S1.got 0 rfl, trivial, fun od => k _ (adR_frz S1)⟩
/-! sorted -/
def srtS (xs : List Str) : List Str := xs.mergeSort fun a b => decide (a.cps.toList ≤ b.cps.toList)
end
end RC
namespace RC
open PySem PySem.Spec PyProof.Rows L2
/-! ### texts in order -/
def leS (a b : Str) : Bool := !ltCps b.cps.toList a.cps.toList
def srtS' (xs : List Str) : List Str := xs.mergeSort leS
theorem ltCps_irrefl : ∀ a : List Nat, ltCps a a = false
  | [] => rfl
  | x :: r => by simp [ltCps, ltCps_irrefl r]
theorem ltCps_trans : ∀ a b c : List Nat, ltCps a b = true → ltCps b c = true → ltCps a c = true
  | [], [], _, h, _ => by simp [ltCps] at h
  | [], _ :: _, [], _, h => by simp [ltCps] at h
  | [], _ :: _, _ :: _, _, _ => rfl
  | _ :: _, [], _, h, _ => by simp [ltCps] at h
  | _ :: _, _ :: _, [], _, h => by simp [ltCps] at h
  | x :: r, y :: s, z :: t, h, g => by
    simp only [ltCps, Bool.or_eq_true, Bool.and_eq_true, decide_eq_true_eq, beq_iff_eq] at h g ⊢
    rcases h with h | ⟨h, h'⟩
    · rcases g with g | ⟨g, _⟩
      · exact .inl (by omega)
      · exact .inl (by omega)
    · rcases g with g | ⟨g, g'⟩
      · exact .inl (by omega)
      · exact .inr ⟨by omega, ltCps_trans r s t h' g'⟩
theorem ltCps_tri : ∀ a b : List Nat, ltCps a b = false → ltCps b a = false → a = b
  | [], [], _, _ => rfl
  | [], _ :: _, h, _ => by simp [ltCps] at h
  | _ :: _, [], _, h => by simp [ltCps] at h
  | x :: r, y :: s, h, g => by
    simp only [ltCps, Bool.or_eq_false_iff, Bool.and_eq_false_iff, decide_eq_false_iff_not, beq_eq_false_iff_ne] at h g
    have e : x = y := by omega
    subst e
    rw [ltCps_tri r s (by simpa using h.2) (by simpa using g.2)]
theorem leS_refl (a : Str) : leS a a = true := by simp [leS, ltCps_irrefl]
theorem leS_total (a b : Str) : (leS a b || leS b a) = true := by
  unfold leS
  cases h : ltCps b.cps.toList a.cps.toList with
  | false => rfl
  | true =>
    cases g : ltCps a.cps.toList b.cps.toList with
    | false => rfl
    | true =>
      have := ltCps_trans _ _ _ h g
      rw [ltCps_irrefl] at this
      cases this
theorem leS_trans (a b c : Str) (h : leS a b = true) (g : leS b c = true) : leS a c = true := by
  unfold leS at *
  cases k : ltCps c.cps.toList a.cps.toList with
  | false => rfl
  | true =>
    exfalso
    rw [Bool.not_eq_true'] at h g
    cases z : ltCps b.cps.toList c.cps.toList with
    | true =>
      have := ltCps_trans _ _ _ z k
      rw [this] at h
      cases h
    | false =>
      have e := ltCps_tri _ _ z g
      rw [e] at h
      rw [h] at k
      cases k
theorem leS_anti (a b : Str) (h : leS a b = true) (g : leS b a = true) : a = b := by
  unfold leS at *
  rw [Bool.not_eq_true'] at h g
  have e := ltCps_tri _ _ g h
  obtain ⟨x⟩ := a
  obtain ⟨y⟩ := b
  have e' : x = y := Array.toList_inj.mp e
  rw [e']
theorem sortedS_pw : ∀ {l : List Str}, sortedS l = true → l.Pairwise (fun a b => leS a b = true)
  | [], _ => List.Pairwise.nil
  | [x], _ => by simp
  | x :: y :: r, h => by
    have h' : (!ltCps y.cps.toList x.cps.toList && risingS y r) = true := h
    rw [Bool.and_eq_true] at h'
    have ih := sortedS_pw (l := y :: r) h'.2
    refine List.pairwise_cons.mpr ⟨fun z hz => ?_, ih⟩
    rcases List.mem_cons.mp hz with rfl | hz
    · exact h'.1
    · exact leS_trans _ _ _ h'.1 ((List.pairwise_cons.mp ih).1 z hz)
theorem pwS_eq : ∀ {xs ys : List Str}, xs.Perm ys → xs.Pairwise (fun a b => leS a b = true) → ys.Pairwise (fun a b => leS a b = true) → xs = ys
  | [], ys, p, _, _ => (List.nil_perm.mp p).symm
  | x :: xs, [], p, _, _ => absurd p.length_eq (by simp)
  | x :: xs, y :: ys, p, h1, h2 => by
    obtain ⟨a1, a2⟩ := List.pairwise_cons.mp h1
    obtain ⟨b1, b2⟩ := List.pairwise_cons.mp h2
    have e : x = y := by
      have m1 : y ∈ x :: xs := p.mem_iff.mpr List.mem_cons_self
      have m2 : x ∈ y :: ys := p.mem_iff.mp List.mem_cons_self
      rcases List.mem_cons.mp m1 with z | z
      · exact z.symm
      · rcases List.mem_cons.mp m2 with w | w
        · exact w
        · exact leS_anti _ _ (a1 y z) (b1 x w)
    subst e
    rw [pwS_eq (List.Perm.cons_inv p) a2 b2]
theorem srtS_perm (xs : List Str) : (srtS' xs).Perm xs := List.mergeSort_perm _ _
theorem srtS_pw (xs : List Str) : (srtS' xs).Pairwise (fun a b => leS a b = true) := List.pairwise_mergeSort (le := leS) leS_trans leS_total xs
theorem srtS_eq {ys xs : List Str} (p : ys.Perm xs) (h : sortedS ys = true) : ys = srtS' xs := pwS_eq (p.trans (srtS_perm xs).symm) (sortedS_pw h) (srtS_pw xs)
def rSortDS : List V → Hp → VK → Prop := fun xs H Q => ∃ (a : Addr) (kvs : List (Key × V)) (ks : List Str), xs = [.ref a] ∧ Rd H a (.dK kvs) ∧ kvs.map (·.1) = ks.map Sum.inr ∧ ks.length < 64 ∧
  ∀ ys p, ys.Perm ks → sortedS ys = true → H p = none → Q (.ref p) (upd H p (.lst (ys.map V.str)))
theorem cr_sortedDS {X : Cx} (h : X.calm = true) : CallR X (.builtin "sorted") rSortDS := call_sortedD h
section
variable {α : Type} {K : PySem.W.Frag} {e : α → PyData} {Rs : List Res} {H : Hp} {Q : VK} {p : Addr}
theorem dqAll_strs : ∀ xs : List Str, DqAll K H (xs.map V.str) (xs.map eS)
  | [] => .nil
  | x :: r => .cons (.str x) (dqAll_strs r)
theorem dqAll_ints : ∀ xs : List Int, DqAll K H (xs.map V.int) (xs.map eI)
  | [] => .nil
  | x :: r => .cons (.int x) (dqAll_ints r)
theorem M.ownS {q : Addr} {xs : List Str} (S : M (pt q (.lst (xs.map V.str)) :: Rs) H) : M (acR K q (xs.map eS) :: Rs) H := S.own (EnF.all fun F => dqAll_strs xs)
theorem M.ownI {q : Addr} {xs : List Int} (S : M (pt q (.lst (xs.map V.int)) :: Rs) H) : M (acR K q (xs.map eI) :: Rs) H := S.own (EnF.all fun F => dqAll_ints xs)
theorem v_sortdS {m : List (Str × α)} (S : M Rs H) (j : Nat) (hj : Rs[j]? = some (adR K iS e p m)) (hz : (ks m).length < 64) (k : ∀ q H', M (acR K q ((srtS' (ks m)).map eS) :: Rs) H' → Q (.ref q) H') : rSortDS [.ref p] H Q := by
  obtain ⟨kvs, h, t⟩ := S.gotDk j hj
  refine ⟨p, kvs, ks m, rfl, .inl h, t.keys, hz, fun ys q hp hs hn => ?_⟩
  rw [srtS_eq hp hs]
  exact k q _ (S.new hn).ownS
theorem v_sortdI {m : List (Int × α)} (S : M Rs H) (j : Nat) (hj : Rs[j]? = some (adR K iI e p m)) (hz : (ks m).length < 64) (k : ∀ q H', M (acR K q ((srt (ks m)).map eI) :: Rs) H' → Q (.ref q) H') : rSortDI [.ref p] H Q := by
  obtain ⟨kvs, h, t⟩ := S.gotDk j hj
  exact v_sortDI S h t.keys hz fun q H' S' => k q H' S'.ownI
/-! ### texts -/
def atS (s : Str) (i : Int) : Option Str := if s.length ≤ 100000 then (atI s.cps.toList i).map fun c => ⟨#[c]⟩ else none
theorem v_ixs {s : Str} {i : Int} {c : Str} (h : atS s i = some c) (k : Q (.str c) H) : uIx K (.str s) (.int i) H Q := by
  unfold atS at h
  split at h
  · rename_i hz
    cases e : atI s.cps.toList i with
    | none => rw [e] at h; cases h
    | some n =>
      rw [e] at h
      cases h
      exact .inr (.inr ⟨s, i, n, rfl, rfl, Nat.le_trans hz (by decide), e, k⟩)
  · cases h
def rJoin (K : PySem.W.Frag) : V → List V → Hp → VK → Prop := fun x xs H Q => ∃ a p, ∃ ys : List Str, x = .str a ∧ xs = [.ref p] ∧ (SqL K H p (ys.map V.str) ∨ SqT K H p (ys.map V.str)) ∧ (ys.map (·.length)).sum + ys.length * a.length ≤ 16777216 ∧ Q (.str (Txt.join a ys)) H
theorem g_m1 {r : V → List V → Hp → VK → Prop} {to te : TE} {σ : L2.St} (k : to σ H fun x H1 => (∃ a, x = .str a) ∧ te σ H1 fun y H2 => r x [y] H2 Q) : tM1 r to te σ H Q := k
theorem v_isS {s : Str} {φ : Prop} (k : φ) : (∃ a, V.str s = .str a) ∧ φ := ⟨⟨s, rfl⟩, k⟩
theorem DqAll.strs : ∀ {xs : List Str} {vs : List V}, DqAll K H vs (xs.map eS) → vs = xs.map V.str
  | [], _, h => by cases h; rfl
  | x :: r, _, h => by
    cases h with
    | cons a t => rw [a.strV, DqAll.strs t]; rfl
theorem DqAll.ints : ∀ {xs : List Int} {vs : List V}, DqAll K H vs (xs.map eI) → vs = xs.map V.int
  | [], _, h => by cases h; rfl
  | x :: r, _, h => by
    cases h with
    | cons a t => rw [a.intV, DqAll.ints t]; rfl
theorem Dq.lstS {v : V} {xs : List Str} (d : Dq K H v (eL eS xs)) : ∃ a, v = .ref a ∧ SqL K H a (xs.map V.str) := by
  cases d with
  | lst h q => exact ⟨_, rfl, by rw [← q.strs]; exact h⟩
theorem Dq.lstI {v : V} {xs : List Int} (d : Dq K H v (eL eI xs)) : ∃ a, v = .ref a ∧ SqL K H a (xs.map V.int) := by
  cases d with
  | lst h q => exact ⟨_, rfl, by rw [← q.ints]; exact h⟩
theorem v_join {s : Str} {v : V} {xs : List Str} (d : Dq K H v (eL eS xs)) (hz : (xs.map (·.length)).sum + xs.length * s.length ≤ 16777216) (k : Q (.str (Txt.join s xs)) H) : rJoin K (.str s) [v] H Q := by
  obtain ⟨a, rfl, h⟩ := d.lstS
  exact ⟨s, a, xs, rfl, rfl, .inl h, hz, k⟩
theorem v_addS {s t : Str} (h : s.length + t.length ≤ 100000) (k : Q (.str (s ++ t)) H) : uAdd K (.str s) (.str t) H Q := .inr (.inl ⟨s, t, rfl, rfl, Nat.le_trans h (by decide), k⟩)
theorem v_lenS {s : Str} (h : s.length ≤ 100000) (k : Q (.int (s.length : Nat)) H) : uLen K [.str s] H Q := .inl ⟨_, _, rfl, ⟨Nat.le_trans h (by decide), rfl⟩, k⟩
theorem v_neS {i j : Str} (k : Q (.bl (!decide (i = j))) H) : uNe K (.str i) (.str j) H Q := .inl ⟨rfl, by
  have e : decide (V.str i = V.str j) = decide (i = j) := decide_eq_decide.mpr ⟨fun h => V.str.inj h, fun h => by rw [h]⟩
  rw [e]
  exact k⟩
/-- one sign in a text -/
def inSt (c s : Str) : Option Bool := match c.cps.toList with
  | [n] => some (decide (n ∈ s.cps.toList))
  | _ => none
theorem v_inSt {c s : Str} {b : Bool} (h : inSt c s = some b) (k : Q (.bl b) H) : uIn K (.str c) (.str s) H Q := by
  obtain ⟨⟨l⟩⟩ := c
  unfold inSt at h
  match l, h with
  | [n], h =>
    cases h
    exact .inr (.inr (.inr ⟨_, _, rfl, rfl, by rw [show (⟨⟨[n]⟩⟩ : Str) = ⟨#[n]⟩ from rfl, PySem.StrLaws.found_one s n]; exact k⟩))
theorem v_ninSt {c s : Str} {b : Bool} (h : inSt c s = some b) (k : Q (.bl (!b)) H) : uNotIn K (.str c) (.str s) H Q := by
  obtain ⟨⟨l⟩⟩ := c
  unfold inSt at h
  match l, h with
  | [n], h =>
    cases h
    exact .inr (.inr (.inr ⟨_, _, rfl, rfl, by rw [show (⟨⟨[n]⟩⟩ : Str) = ⟨#[n]⟩ from rfl, PySem.StrLaws.found_one s n]; exact k⟩))
end
end RC

namespace RC
open PySem PySem.Spec PyProof.Rows L2
section
variable {α β : Type} {K : PySem.W.Frag} {σ : L2.St} {H : Hp} {Q : VK} {D : Ends} {Rs : List Res} {ta tb tc te : TE} {tt s : TT} {c1 c2 : Bool} {x y z : V} {p : Addr}
/-- an expression, a test, of which the value is known and that changes nothing -/
def Pu (te : TE) (σ : L2.St) (H : Hp) (x : V) : Prop := ∀ P : VK, P x H → te σ H P
def PuT (tt : TT) (σ : L2.St) (H : Hp) (c : Bool) : Prop := ∀ P : Bool → Hp → Prop, P c H → tt σ H P
theorem g_andP {P : Bool → Hp → Prop} (h1 : PuT tt σ H c1) (h2 : PuT s σ H c2) (k : P (c1 && c2) H) : tAnd tt s σ H P := h1 _ (by
  cases c1 with
  | true => exact h2 _ k
  | false => exact k)
theorem g_orP {P : Bool → Hp → Prop} (h1 : PuT tt σ H c1) (h2 : PuT s σ H c2) (k : P (c1 || c2) H) : tOr tt s σ H P := h1 _ (by
  cases c1 with
  | true => exact k
  | false => exact h2 _ k)
theorem g_andVP (h1 : Pu ta σ H (.bl c1)) (h2 : Pu tb σ H (.bl c2)) (k : Q (.bl (c1 && c2)) H) : tAndV ta tb σ H Q := h1 _ ⟨c1, rfl, by
  cases c1 with
  | true => exact h2 _ k
  | false => exact k⟩
theorem g_orVP (h1 : Pu ta σ H (.bl c1)) (h2 : Pu tb σ H (.bl c2)) (k : Q (.bl (c1 || c2)) H) : tOrV ta tb σ H Q := h1 _ ⟨c1, rfl, by
  cases c1 with
  | true => exact k
  | false => exact h2 _ k⟩
theorem g_chainP {r r' : R2} (ha : Pu ta σ H x) (hb : Pu tb σ H y) (h1 : ∀ P : VK, P (.bl c1) H → r x y H P) (hc : Pu tc σ H z) (h2 : ∀ P : VK, P (.bl c2) H → r' y z H P) (k : Q (.bl (c1 && c2)) H) : tChain r r' ta tb tc σ H Q :=
  ha _ (hb _ (h1 _ ⟨c1, rfl, by
    cases c1 with
    | true => exact hc _ (h2 _ k)
    | false => exact k⟩))
theorem tt_cut {P : Bool → Hp → Prop} {m : (Bool → Prop) → Prop} {KK : Bool → Prop} (hf : jn m KK) (Inv : Hp → Prop) (h1 : ∀ (kk : Bool → Prop) (P' : Bool → Hp → Prop), (∀ c H, kk c → Inv H → P' c H) → m kk → tt σ H P')
    (h2 : ∀ c H, KK c → Inv H → P c H) : tt σ H P := h1 KK P h2 hf
theorem te_cut {m : (Bool → Prop) → Prop} {KK : Bool → Prop} (hf : jn m KK) (Inv : Hp → Prop) (h1 : ∀ (kk : Bool → Prop) (P' : VK), (∀ c H, kk c → Inv H → P' (.bl c) H) → m kk → te σ H P')
    (h2 : ∀ c H, KK c → Inv H → Q (.bl c) H) : te σ H Q := h1 KK Q h2 hf
theorem M.gotO {ds : List PyData} (S : M Rs H) (j : Nat) (hj : Rs[j]? = some (acR K p ds)) : Dq K H (.ref p) (.list ds) := by
  obtain ⟨vs, S1⟩ := (S.at j hj).ex
  exact .lst (SqL.of (S1.sp.got 0 rfl)) (S1.sp.gotAA 1 rfl)
theorem v_revq {e : α → PyData} {v : V} {xs : List α} (S : M Rs H) (j : Nat) (hj : Rs[j]? = some (da K v (eL e xs))) (k : ∀ p H', M (acR K p (xs.reverse.map e) :: Rs) H' → Q (.ref p) H') : RevK K Q v H := by
  obtain ⟨F, L, s, m⟩ := S
  cases EnF.at j hj F L s with
  | lst a q =>
    have hr : ∀ {vs : List V} {ds : List PyData}, DqAll K F vs ds → DqAll K F vs.reverse ds.reverse := by
      intro vs ds h
      induction vs generalizing ds with
      | nil => cases h; exact .nil
      | cons v r ih =>
        cases h with
        | cons a t =>
          rw [List.reverse_cons, List.reverse_cons]
          exact DqAll.snoc a (ih t)
    refine v_rev (⟨F, L, ⟨[], L, rfl, ⟨rfl, hr q⟩, s⟩, m⟩ : M (daA K _ _ :: Rs) H) (m.ex.sqL a) fun p H' S' => k p H' ?_
    obtain ⟨F, L, ⟨l1, l2, rfl, a1, l3, l4, rfl, ⟨rfl, q1⟩, b⟩, m⟩ := S'
    exact ⟨F, _, ⟨l1, l4, rfl, ⟨_, l1, [], by simp, a1, rfl, by rw [List.map_reverse]; exact q1⟩, b⟩, m⟩
/-- == and != of data without dicts -/
abbrev EqOk (d : PyData) : Prop := SeqAt.shaped d = true
theorem EqOk.nodict {d : PyData} (h : EqOk d) : d.hasDict = false := PyData.hasDict_of_canLay d (SeqAt.canLay_of_shaped h)
theorem v_eqq {d e : PyData} (h1 : Dq K H x d) (h2 : Dq K H y e) (s1 : EqOk d) (s2 : EqOk e) (k : Q (.bl (PyData.eqv d e)) H) : uEq K x y H Q := v_eqD (h1.dp s1.nodict) (h2.dp s2.nodict) s1 s2 k
theorem v_neq {d e : PyData} (h1 : Dq K H x d) (h2 : Dq K H y e) (s1 : EqOk d) (s2 : EqOk e) (k : Q (.bl (!PyData.eqv d e)) H) : uNe K x y H Q := v_neD (h1.dp s1.nodict) (h2.dp s2.nodict) s1 s2 k
/-- a, b = a pair -/
theorem M.openP {γ δ : Type} {e : γ → PyData} {f : δ → PyData} {v : V} {q : γ × δ} (S : M Rs H) (j : Nat) (hj : Rs[j]? = some (da K v (eP e f q))) : ∃ a u w, v = .ref a ∧ SqT K H a [u, w] ∧ M (da K u (e q.1) :: da K w (f q.2) :: Rs) H := by
  obtain ⟨F, L, s, m⟩ := S
  cases EnF.at j hj F L s with
  | tup a t =>
    cases t with
    | cons d1 t =>
      cases t with
      | cons d2 t =>
        cases t
        exact ⟨_, _, _, rfl, m.ex.sqT a, F, L, ⟨[], L, rfl, ⟨rfl, d1⟩, [], L, rfl, ⟨rfl, d2⟩, s⟩, m⟩
theorem M.openT3 {γ δ ε : Type} {e : γ → PyData} {f : δ → PyData} {g : ε → PyData} {v : V} {q : γ × δ × ε} (S : M Rs H) (j : Nat) (hj : Rs[j]? = some (da K v (eT3 e f g q))) : ∃ a u w y, v = .ref a ∧ SqT K H a [u, w, y] ∧ M (da K u (e q.1) :: da K w (f q.2.1) :: da K y (g q.2.2) :: Rs) H := by
  obtain ⟨F, L, s, m⟩ := S
  cases EnF.at j hj F L s with
  | tup a t =>
    cases t with
    | cons d1 t =>
      cases t with
      | cons d2 t =>
        cases t with
        | cons d3 t =>
          cases t
          exact ⟨_, _, _, _, rfl, m.ex.sqT a, F, L, ⟨[], L, rfl, ⟨rfl, d1⟩, [], L, rfl, ⟨rfl, d2⟩, [], L, rfl, ⟨rfl, d3⟩, s⟩, m⟩
theorem v_itLe {a : Addr} {xs : List V} {v : V} {R : It → Hp → Prop} (e : v = .ref a) (h : SqL K H a xs) (k : R (Itl K a) H) : ItL K R v H := ⟨a, e, ⟨xs, h⟩, k⟩
/-! a text, sign by sign -/
def strL (s : Str) : List Str := s.cps.toList.map fun c => ⟨#[c]⟩
theorem g_iStr {R : It → Hp → Prop} (k : te σ H fun v H1 => ∃ x, v = .str x ∧ R (Its x) H1) : iStr te σ H R := k
theorem v_itS {s : Str} {R : It → Hp → Prop} (k : R (Its s) H) : ∃ x, V.str s = .str x ∧ R (Its x) H := ⟨s, rfl, k⟩
theorem for_str {F : Str → β → (β → Prop) → Prop} {z : Str} {s0 : β} {KK : β → Prop} {g : TG} {tb : TS} (hf : forD F (strL z) s0 KK) (Inv : β → L2.St → Hp → Prop) (h0 : Inv s0 σ H)
    (hs : ∀ x s σ H (kk : β → Prop), Inv s σ H → F x s kk → g (.str x) σ H fun σ2 H2 => tb ⟨fun σ H => ∃ s', kk s' ∧ Inv s' σ H, D.rt, D.nx, fun σ H => ∃ s', kk s' ∧ Inv s' σ H⟩ σ2 H2)
    (hd : ∀ s σ H, KK s → Inv s σ H → D.nx σ H) : ForW (Its z) g tb D σ H := by
  have hl : (strL z).length = z.cps.size := by simp [strL]
  refine for_W walk_str (fun i σ H => ∃ s, forD F ((strL z).drop i) s KK ∧ Inv s σ H) ⟨s0, by simpa using hf, h0⟩ (fun _ _ _ _ _ => trivial) ?_ ?_
  · rintro i v σ H H' hi ⟨s, hf, h⟩ ⟨rfl, c, hc, rfl⟩
    have hi2 : i < (strL z).length := by rw [hl]; exact hi
    rw [List.drop_eq_getElem_cons hi2] at hf
    have e : (strL z)[i] = ⟨#[c]⟩ := by
      have : (strL z)[i]? = some ⟨#[c]⟩ := by
        unfold strL
        rw [List.getElem?_map, Array.getElem?_toList, hc]
        rfl
      exact Option.some.inj ((List.getElem?_eq_getElem hi2).symm.trans this)
    rw [e] at hf
    exact hs _ s σ H' _ h hf
  · rintro σ H ⟨s, hf, h⟩
    rw [← hl, List.drop_length] at hf
    exact hd s σ H hf h
/-! isinstance -/
theorem sqL_ty {a : Addr} {xs : List V} (h : SqL K H a xs) : TyX K H (.ref a) (.type "list") := by
  rcases h with (h | ⟨o, h⟩) | ⟨o, its, n, h, hc, _⟩
  · exact .base (.lst h)
  · exact .base (.frz h)
  · exact .kList h hc
theorem sqT_ty {a : Addr} {xs : List V} (h : SqT K H a xs) : TyX K H (.ref a) (.type "tuple") := by
  rcases h with (h | ⟨o, h⟩) | ⟨o, its, n, h, hc, _⟩
  · exact .base (.tup h)
  · exact .fTuple h
  · exact .kTuple h hc
def tyN : PyData → String
  | .none => "NoneType"
  | .bool _ => "bool"
  | .int _ => "int"
  | .str _ => "str"
  | .list _ => "list"
  | .tuple _ => "tuple"
  | .dict _ => "dict"
def isA (c : String) (d : PyData) : Bool := decide (tyN d = c) || (decide (tyN d = "bool") && decide (c = "int"))
/-- isinstance of a dict, frozen or not -/
def rIsiD (K : PySem.W.Frag) : List V → Hp → VK → Prop := fun xs H Q => ∃ (a : Addr) (kvs : List (Key × V)) (c : String) (b : Bool), xs = [.ref a, .ty c] ∧ Rd H a (.dK kvs) ∧ PySem.W.kitOne K (.type "dict") (.type c) = some b ∧ Q (.bl b) H
theorem cr_isiD {X : Cx} : CallR X (.builtin "isinstance") (rIsiD X.K) := by
  intro pins s σ H xs us Q I r h
  obtain ⟨a, kvs, c, b, rfl, hr, e, q⟩ := h
  obtain ⟨u1, u2, rfl, r1, r2⟩ := vals2 r
  cases (show u1 = Value.ref a from r1)
  have e2 := (ClsV.ty c).eq r2
  subst e2
  obtain ⟨_, _, vs, _, o, es, ep, h1, h2, _⟩ := dk_rd I.hok hr
  exact PySem.W.kia_one PySem.W.kitx_dict I.kIn ⟨o, h1, h2.1⟩ e (fun z => nomatch z) fun tk => ⟨.bl b, H, I.tok tk, rfl, q⟩
def uIsi (K : PySem.W.Frag) : List V → Hp → VK → Prop := fun xs H Q => rIsi K xs H Q ∨ rIsiD K xs H Q
theorem cr_isiQ {X : Cx} : CallR X (.builtin "isinstance") (uIsi X.K) := call_isi.or cr_isiD
theorem Dn.ty {v : V} {d : PyData} (h : Dn K H v d) : TyX K H v (.type (tyN d)) ∨ (∃ a kvs, v = .ref a ∧ Rd H a (.dK kvs) ∧ tyN d = "dict") := by
  cases h with
  | non => exact .inl (.base .non)
  | bl b => exact .inl (.base (.bl b))
  | int i => exact .inl (.base (.int i))
  | str x => exact .inl (.base (.str x))
  | lst h _ => exact .inl (sqL_ty h)
  | tup h _ => exact .inl (sqT_ty h)
  | dct h _ => exact .inr ⟨_, _, rfl, h, rfl⟩
theorem kit_all : ∀ t ∈ ["NoneType", "bool", "int", "str", "list", "tuple", "dict"], ∀ c ∈ ["int", "bool", "str", "list", "tuple", "dict"], kitB t c = some (decide (t = c) || (decide (t = "bool") && decide (c = "int"))) := by decide +kernel
theorem v_isq {v : V} {d : PyData} {c : String} {b : Bool} (h : Dn K H v d) (hc : c ∈ ["int", "bool", "str", "list", "tuple", "dict"]) (hb : isA c d = b) (k : Q (.bl b) H) : uIsi K [v, .ty c] H Q := by
  subst hb
  have kk := kit_ty (K := K) (kit_all (tyN d) (by cases d <;> simp [tyN]) c hc)
  rcases h.ty with z | ⟨a, kvs, rfl, hr, e⟩
  · exact .inl (v_isi z kk k)
  · rw [e] at kk
    refine .inr ⟨a, kvs, c, _, rfl, hr, kk, ?_⟩
    unfold isA at k
    rw [e] at k
    exact k
theorem M.spN2 {A B : Res} (S : M (sp2 A B :: Rs) H) : M (A :: B :: Rs) H := S.sp
theorem M.spN3 {A B C : Res} (S : M (sp2 A (sp2 B C) :: Rs) H) : M (A :: B :: C :: Rs) H := M.sub (.cons 2 rfl (.refl _)) (S.sp.at 1 rfl).spN2
theorem M.spN4 {A B C E : Res} (S : M (sp2 A (sp2 B (sp2 C E)) :: Rs) H) : M (A :: B :: C :: E :: Rs) H := M.sub (.cons 3 rfl (.refl _)) (S.sp.at 1 rfl).spN3
theorem M.spN5 {A B C E G : Res} (S : M (sp2 A (sp2 B (sp2 C (sp2 E G))) :: Rs) H) : M (A :: B :: C :: E :: G :: Rs) H := M.sub (.cons 4 rfl (.refl _)) (S.sp.at 1 rfl).spN4
theorem M.spM2 {A B : Res} (S : M (A :: B :: Rs) H) : M (sp2 A B :: Rs) H := S.sp'
theorem M.spM3 {A B C : Res} (S : M (A :: B :: C :: Rs) H) : M (sp2 A (sp2 B C) :: Rs) H := ((M.spM2 (M.sub (.cons 1 rfl (.cons 1 rfl (.refl _))) S)).at 1 rfl).sp'
theorem M.spM4 {A B C E : Res} (S : M (A :: B :: C :: E :: Rs) H) : M (sp2 A (sp2 B (sp2 C E)) :: Rs) H := ((M.spM3 (M.sub (.cons 1 rfl (.cons 1 rfl (.cons 1 rfl (.refl _)))) S)).at 1 rfl).sp'
theorem M.spM5 {A B C E G : Res} (S : M (A :: B :: C :: E :: G :: Rs) H) : M (sp2 A (sp2 B (sp2 C (sp2 E G))) :: Rs) H := ((M.spM4 (M.sub (.cons 1 rfl (.cons 1 rfl (.cons 1 rfl (.cons 1 rfl (.refl _))))) S)).at 1 rfl).sp'
end
end RC

namespace RC
open PySem PySem.Spec PyProof.Rows L2
/-! ### lists of numbers, of texts: what they are now is enough -/
structure Fl {α : Type} (e : α → PyData) (sv : α → V) : Prop where
  to : ∀ {K : PySem.W.Frag} {H : Hp} {v : V} {x : α}, Dq K H v (e x) → v = sv x
  of : ∀ (K : PySem.W.Frag) (H : Hp) (x : α), Dq K H (sv x) (e x)
theorem flI : Fl eI V.int := ⟨Dq.intV, fun _ _ x => .int x⟩
theorem flS : Fl eS V.str := ⟨Dq.strV, fun _ _ x => .str x⟩
theorem flB : Fl eB V.bl := ⟨Dq.blV, fun _ _ x => .bl x⟩
/-- a resource by which v is d -/
def Brw (R : Res) (K : PySem.W.Frag) (v : V) (d : PyData) : Prop := ∀ Rs H, M (R :: Rs) H → Dq K H v d
section
variable {α β : Type} {e : α → PyData} {sv : α → V} {K : PySem.W.Frag} {σ : L2.St} {H : Hp} {Q : VK} {D : Ends} {Rs : List Res} {v w : V} {xs ys : List α} {p : Addr}
theorem Brw.da {d : PyData} : Brw (da K v d) K v d := fun _ _ S => S.gotA 0 rfl
theorem Brw.ac {ds : List PyData} : Brw (acR K p ds) K (.ref p) (.list ds) := fun _ _ S => S.gotO 0 rfl
theorem Fl.all (f : Fl e sv) : ∀ {vs : List V} {xs : List α}, DqAll K H vs (xs.map e) → vs = xs.map sv
  | _, [], h => by cases h; rfl
  | _, x :: r, h => by
    cases h with
    | cons a t => rw [f.to a, Fl.all f t]; rfl
theorem Fl.ofA (f : Fl e sv) : ∀ xs : List α, DqAll K H (xs.map sv) (xs.map e)
  | [] => .nil
  | x :: r => .cons (f.of K H x) (Fl.ofA f r)
theorem Fl.lst (f : Fl e sv) (d : Dq K H v (eL e xs)) : ∃ a, v = .ref a ∧ SqL K H a (xs.map sv) := by
  cases d with
  | lst h q => exact ⟨_, rfl, by rw [← f.all q]; exact h⟩
theorem v_ixN (f : Fl e sv) (d : Dq K H v (eL e xs)) {i : Int} {x : α} (hx : atI xs i = some x) (k : Q (sv x) H) : uIx K v (.int i) H Q := by
  obtain ⟨a, rfl, h⟩ := f.lst d
  exact v_ixL h (atI_map hx) k
theorem v_lenN (d : Dq K H v (eL e xs)) (k : Q (.int (xs.length : Nat)) H) : uLen K [v] H Q := by
  cases d with
  | lst h q =>
    have := q.len
    rw [List.length_map] at this
    exact v_lenL h (by rw [this]; exact k)
theorem M.ownF (f : Fl e sv) {q : Addr} (S : M (pt q (.lst (xs.map sv)) :: Rs) H) : M (acR K q (xs.map e) :: Rs) H := S.own (EnF.all fun F => f.ofA xs)
theorem v_liN (f : Fl e sv) (S : M Rs H) (d : Dq K H v (eL e xs)) (k : ∀ p H', M (acR K p (xs.map e) :: Rs) H' → Q (.ref p) H') : rListOf K [v] H Q := by
  obtain ⟨a, rfl, h⟩ := f.lst d
  exact v_list S (.inl h) fun p H' S' => k p H' (S'.ownF f)
theorem cutV_map (f : α → V) (xs : List α) (lo hi : Option Int) : cutV (xs.map f) lo hi = (cutL xs lo hi).map f := cutL_map f xs lo hi
theorem v_slN (f : Fl e sv) (S : M Rs H) (d : Dq K H v (eL e xs)) {lo hi : Option Int} (k : ∀ p H', M (acR K p ((cutL xs lo hi).map e) :: Rs) H' → Q (.ref p) H') : uSl K v lo hi H Q := by
  obtain ⟨a, rfl, h⟩ := f.lst d
  refine v_slL S h fun p H' S' => k p H' ?_
  rw [cutV_map] at S'
  exact S'.ownF f
theorem v_catN (f : Fl e sv) (S : M Rs H) (d : Dq K H v (eL e xs)) (d2 : Dq K H w (eL e ys)) (hz : xs.length + ys.length ≤ 100000) (k : ∀ p H', M (acR K p ((xs ++ ys).map e) :: Rs) H' → Q (.ref p) H') : uAdd K v w H Q := by
  obtain ⟨a, rfl, h⟩ := f.lst d
  obtain ⟨b, rfl, h2⟩ := f.lst d2
  refine v_catS S h h2 (by rw [List.length_map, List.length_map]; exact hz) fun p H' S' => k p H' ?_
  rw [← List.map_append] at S'
  exact S'.ownF f
theorem v_revN (f : Fl e sv) (S : M Rs H) (d : Dq K H v (eL e xs)) (k : ∀ p H', M (acR K p (xs.reverse.map e) :: Rs) H' → Q (.ref p) H') : RevK K Q v H := by
  obtain ⟨a, rfl, h⟩ := f.lst d
  refine v_rev S h fun p H' S' => k p H' ?_
  rw [← List.map_reverse] at S'
  exact S'.ownF f
def ItN (K : PySem.W.Frag) (v : V) (g : TG) (tb : TS) (D : Ends) (σ : L2.St) (H : Hp) : Prop := ItL K (fun J H1 => ForW J g tb D σ H1) v H
theorem for_N (f : Fl e sv) {F : α → β → (β → Prop) → Prop} {s0 : β} {KK : β → Prop} {g : TG} {tb : TS} (hf : forD F xs s0 KK) (Inv : β → L2.St → Hp → Prop) (h0 : Inv s0 σ H)
    (hrd : ∀ s σ H, Inv s σ H → Dq K H v (eL e xs))
    (hs : ∀ x s σ H (kk : β → Prop), Inv s σ H → F x s kk → g (sv x) σ H fun σ2 H2 => tb ⟨fun σ H => ∃ s', kk s' ∧ Inv s' σ H, D.rt, D.nx, fun σ H => ∃ s', kk s' ∧ Inv s' σ H⟩ σ2 H2)
    (hd : ∀ s σ H, KK s → Inv s σ H → D.nx σ H) : ItL K (fun J H1 => ForW J g tb D σ H1) v H := by
  obtain ⟨a, rfl, h⟩ := f.lst (hrd s0 σ H h0)
  have hrd' : ∀ s σ H, Inv s σ H → SqL K H a (xs.map sv) := fun s σ H h => by
    obtain ⟨b, eb, q⟩ := f.lst (hrd s σ H h)
    cases eb
    exact q
  refine v_itL h (for_lst (e := e) hf Inv h0 (fun s σ H h => ⟨hrd' s σ H h, f.ofA xs⟩) (fun i v x s σ H kk h hv hx hF => ?_) hd)
  rw [List.getElem?_map, hx] at hv
  cases hv
  exact hs x s σ H kk h hF
theorem lc_N (f : Fl e sv) {te : TE} {tt : TT} {g : TG} {ws : List Nat} {F : α → (Option β → Prop) → Prop} {e' : β → PyData} {KK : List β → Prop} (hf : xs.length ≤ 100000 ∧ lcD F xs [] KK) (S : M Rs H) (hrd : ∀ H, M Rs H → Dq K H v (eL e xs))
    (hs : ∀ x (acc : List β) E H (kk : Option β → Prop) (N : Hp → Prop), (acc.map e').length < 100000 → M (acR K E (acc.map e') :: Rs) H → F x kk →
      (∀ y H, kk (some y) → M (acR K E (acc.map e' ++ [e' y]) :: Rs) H → N H) → (∀ H, kk none → M (acR K E (acc.map e') :: Rs) H → N H) → g (sv x) (wipe σ ws) H fun σ2 H2 => wipe σ2 ws = wipe σ ws ∧ tt σ2 H2 fun b H3 =>
      if b = true then te σ2 H3 (LcK N E) else N H3)
    (hd : ∀ E (acc : List β) H, KK acc → M (acR K E (acc.map e') :: Rs) H → Q (.ref E) H) : ItL K (fun J H1 => LcW J g tt te ws σ Q H1) v H := by
  obtain ⟨a, rfl, h⟩ := f.lst (hrd H S)
  refine v_itL h (lc_lst (e := e) hf S (fun H S => ⟨?_, f.ofA xs⟩) (fun i v x acc E H kk N hl S hv hx hF k1 k2 => ?_) hd)
  · obtain ⟨b, eb, q⟩ := f.lst (hrd H S)
    cases eb
    exact q
  · rw [List.getElem?_map, hx] at hv
    cases hv
    exact hs x acc E H kk N hl S hF k1 k2
/-! ### dict comprehensions -/
def DcW (J : It) (g : TG) (tt : TT) (tk tv : TE) (vs : List Nat) (σ : L2.St) (Q : VK) (H1 : Hp) : Prop := ∀ D, H1 D = none → ∃ W : Nat → Nat → Hp → Prop, (∃ m, W 0 m (upd H1 D (.dK []))) ∧ ∀ i m H, W i m H →
  (J.stop i H ∧ Q (.ref D) H) ∨ (J.go i H ∧ ∃ Nx : Hp → Prop, (∀ H', Nx H' → ∃ m', m' < m ∧ W (i + 1) m' H') ∧ ∀ x H', J.yld i H x H' → g x (wipe σ vs) H' fun σ2 H2 => wipe σ2 vs = wipe σ vs ∧ tt σ2 H2 fun b H3 =>
    if b = true then tk σ2 H3 fun y H4 => tv σ2 H4 fun z H5 => ∃ kvs k, y = kV k ∧ H5 D = some (.dK kvs) ∧ kvs.length < sizeLine ∧ Nx (upd H5 D (.dK (putK kvs k z))) else Nx H3)
theorem g_dc {wi : TI} {g : TG} {tt : TT} {tk tv : TE} {vs : List Nat} (k : wi σ H fun J H1 => DcW J g tt tk tv vs σ Q H1) : tDc wi g tt tk tv vs σ H Q := k
def DcK (N : Hp → Prop) (D : Addr) (y : V) : VK := fun z H5 => ∃ kvs k, y = kV k ∧ H5 D = some (.dK kvs) ∧ kvs.length < sizeLine ∧ N (upd H5 D (.dK (putK kvs k z)))
def dcD {κ γ δ : Type} [DecidableEq κ] (f : δ → List (κ × γ) → (Option (κ × γ) → Prop) → Prop) : List δ → List (κ × γ) → (List (κ × γ) → Prop) → Prop
  | [], acc, k => k acc
  | x :: xs, acc, k => f x acc fun y => dcD f xs (match y with | none => acc | some q => pk acc q.1 q.2) k
theorem pk_len {κ γ : Type} [DecidableEq κ] (m : List (κ × γ)) (k : κ) (x : γ) : (pk m k x).length ≤ m.length + 1 := by
  unfold pk
  split
  · rw [List.length_map]; omega
  · rw [List.length_append]; exact Nat.le_refl _
theorem dc_N {κ γ : Type} [DecidableEq κ] {ik : κ → Key} (f : Fl e sv) {tk tv : TE} {tt : TT} {g : TG} {ws : List Nat} {F : α → List (κ × γ) → (Option (κ × γ) → Prop) → Prop} {e' : γ → PyData} {KK : List (κ × γ) → Prop} (hf : xs.length ≤ 100000 ∧ dcD F xs [] KK) (S : M Rs H) (hrd : ∀ H, M Rs H → Dq K H v (eL e xs))
    (hs : ∀ x (acc : List (κ × γ)) E H (kk : Option (κ × γ) → Prop) (N : Hp → Prop), acc.length < 100000 → M (adR K ik e' E acc :: Rs) H → F x acc kk →
      (∀ q H, kk (some q) → M (adR K ik e' E (pk acc q.1 q.2) :: Rs) H → N H) → (∀ H, kk none → M (adR K ik e' E acc :: Rs) H → N H) → g (sv x) (wipe σ ws) H fun σ2 H2 => wipe σ2 ws = wipe σ ws ∧ tt σ2 H2 fun b H3 =>
      if b = true then tk σ2 H3 fun y H4 => tv σ2 H4 (DcK N E y) else N H3)
    (hd : ∀ E (acc : List (κ × γ)) H, KK acc → M (adR K ik e' E acc :: Rs) H → Q (.ref E) H) : ItL K (fun J H1 => DcW J g tt tk tv ws σ Q H1) v H := by
  obtain ⟨a, rfl, h⟩ := f.lst (hrd H S)
  refine v_itL h ?_
  obtain ⟨hz, hf⟩ := hf
  intro E hE
  have w := walk_list (K := K) (a := a) (xs := xs.map sv)
  refine ⟨fun i m H => m = xs.length - i ∧ i ≤ xs.length ∧ ∃ acc, dcD F (xs.drop i) acc KK ∧ acc.length ≤ i ∧ M (adR K ik e' E acc :: Rs) H, ⟨_, rfl, Nat.zero_le _, [], by simpa using hf, Nat.le_refl _, ?_⟩, ?_⟩
  · obtain ⟨F, L, s, mm⟩ := S.new (o := .dK []) hE
    obtain ⟨l1, l2, rfl, a1, b1⟩ := s
    exact ⟨F, _, ⟨l1, l2, rfl, ⟨[], l1, [], by simp, a1, rfl, .nil⟩, b1⟩, mm⟩
  · rintro i m H1 ⟨rfl, hi, acc, hf, ha, S1⟩
    have hq : SqL K H1 a (xs.map sv) := by
      obtain ⟨b, eb, q⟩ := f.lst (hrd H1 S1.tl)
      cases eb
      exact q
    rcases Nat.lt_or_ge i xs.length with hlt | hge
    · right
      rw [List.drop_eq_getElem_cons hlt] at hf
      refine ⟨⟨xs.map sv, sv xs[i], hq, by rw [List.getElem?_map, List.getElem?_eq_getElem hlt]; rfl⟩, fun H => ∃ acc, dcD F (xs.drop (i + 1)) acc KK ∧ acc.length ≤ i + 1 ∧ M (adR K ik e' E acc :: Rs) H, fun H' h => ⟨xs.length - (i + 1), by omega, rfl, hlt, h⟩, ?_⟩
      rintro x H' ⟨rfl, hx⟩
      have hx' := hx _ hq
      rw [List.getElem?_map, List.getElem?_eq_getElem hlt] at hx'
      cases hx'
      exact hs _ acc E H' _ _ (by omega) S1 hf (fun q H hk S => ⟨_, hk, Nat.le_trans (pk_len _ _ _) (by omega), S⟩) (fun H hk S => ⟨acc, hk, by omega, S⟩)
    · left
      have e0 : i = xs.length := by omega
      subst e0
      rw [List.drop_length] at hf
      exact ⟨⟨xs.map sv, hq, by rw [List.length_map]; exact Nat.le_refl _⟩, hd E acc H1 hf S1⟩
theorem v_dcS {γ : Type} {e' : γ → PyData} {N : Hp → Prop} {E : Addr} {acc : List (Str × γ)} {n : Str} {x : γ} {y : V} (S : M Rs H) (j : Nat) (hj : Rs[j]? = some (adR K iS e' E acc)) (h : EnF Rs (fun F => Dq K F y (e' x))) (hz : acc.length < 100000)
    (k : ∀ H', M (adR K iS e' E (pk acc n x) :: Rs.eraseIdx j) H' → N H') : DcK N E (.str n) y H := by
  obtain ⟨kvs, h1, h2, S2⟩ := putd_core (k := n) injS S j hj h
  exact ⟨kvs, Sum.inr n, rfl, h1, Nat.lt_of_lt_of_le (by rw [h2]; exact hz) (by decide), k _ S2⟩
theorem v_dcI {γ : Type} {e' : γ → PyData} {N : Hp → Prop} {E : Addr} {acc : List (Int × γ)} {n : Int} {x : γ} {y : V} (S : M Rs H) (j : Nat) (hj : Rs[j]? = some (adR K iI e' E acc)) (h : EnF Rs (fun F => Dq K F y (e' x))) (hz : acc.length < 100000)
    (k : ∀ H', M (adR K iI e' E (pk acc n x) :: Rs.eraseIdx j) H' → N H') : DcK N E (.int n) y H := by
  obtain ⟨kvs, h1, h2, S2⟩ := putd_core (k := n) injI S j hj h
  exact ⟨kvs, Sum.inl n, rfl, h1, Nat.lt_of_lt_of_le (by rw [h2]; exact hz) (by decide), k _ S2⟩
end
end RC

namespace RC
open PySem PySem.Spec PyProof.Rows L2 SeqAt
section
variable {prog : Program} {w : World}
/-- two tuples whose items are equal -/
theorem tupEq (p q : Addr) (xs ys : Array Value) (m k : Nat) (dp dq : Option Addr) (tp tq : Array (Option Value)) (hz : xs.size = ys.size) : MeetsIn prog w (Builtin.«tuple.__eq__» ⟨[.ref p, .ref q], []⟩) (fun A R s => s.heap.get? p = some ⟨.type "tuple", dp, .seq xs m, tp⟩ ∧ s.heap.get? q = some ⟨.type "tuple", dq, .seq ys k, tq⟩ ∧
    (∀ j (i1 : j < xs.size) (i2 : j < ys.size), EqP prog w A.in1 s xs[j] ys[j] true) ∧ R (.ok (.ret (.bool true))) s) := by
  intro A R s hh
  obtain ⟨h0, g0, d0, t0, o0⟩ := s
  obtain ⟨e1, e2, he, hR⟩ := hh
  have sb := AutoSeq1.sub_tuple_tuple
  have hl : (xs.toList.zip ys.toList).length = xs.size := by simp [hz]
  wp_walk using wpAny_loadPart' e1, wpAny_loadPart' e2, wpAny_forIn_list _ (fun r b s' => b.1 = none ∧ s' = ⟨h0, g0, d0, t0, o0⟩ ∧ ∃ i, r = (xs.toList.zip ys.toList).drop i) _
  case turn =>
    rintro ⟨x, y⟩ r b s' ⟨hb, rfl, i, hi⟩
    have lt : i < (xs.toList.zip ys.toList).length := by
      rcases Nat.lt_or_ge i (xs.toList.zip ys.toList).length with z | z
      · exact z
      · rw [List.drop_of_length_le z] at hi
        cases hi
    rw [List.drop_eq_getElem_cons lt] at hi
    obtain ⟨hxy, hr⟩ := List.cons.inj hi
    have i1 : i < xs.size := by omega
    have i2 : i < ys.size := by omega
    have ex : x = xs[i] := by simpa using congrArg Prod.fst hxy
    have ey : y = ys[i] := by simpa using congrArg Prod.snd hxy
    subst ex ey
    refine wpAny_bind (he i i1 i2 _ _ ?_)
    wp_walk
    exact ⟨rfl, rfl, i + 1, hr⟩
  case fin =>
    rintro ⟨b1, b2⟩ s' ⟨hb, rfl, i, hi⟩
    simp only at hb
    subst hb
    wp_walk
    show R (.ok (.ret (.bool (xs.size == ys.size)))) _
    rw [hz]
    simpa using hR
  case h => exact ⟨rfl, rfl, 0, rfl⟩
theorem tupNe (p q : Addr) (xs ys : Array Value) (m k : Nat) (dp dq : Option Addr) (tp tq : Array (Option Value)) (hz : xs.size = ys.size) : MeetsIn prog w (Builtin.«tuple.__ne__» ⟨[.ref p, .ref q], []⟩) (fun A R s => s.heap.get? p = some ⟨.type "tuple", dp, .seq xs m, tp⟩ ∧ s.heap.get? q = some ⟨.type "tuple", dq, .seq ys k, tq⟩ ∧
    (∀ j (i1 : j < xs.size) (i2 : j < ys.size), EqP prog w A.in1 s xs[j] ys[j] true) ∧ R (.ok (.ret (.bool false))) s) := by
  intro A R s hh
  obtain ⟨h0, g0, d0, t0, o0⟩ := s
  obtain ⟨e1, e2, he, hR⟩ := hh
  have sb := AutoSeq1.sub_tuple_tuple
  have hl : (xs.toList.zip ys.toList).length = xs.size := by simp [hz]
  wp_walk using wpAny_loadPart' e1, wpAny_loadPart' e2, wpAny_forIn_list _ (fun r b s' => b.1 = none ∧ s' = ⟨h0, g0, d0, t0, o0⟩ ∧ ∃ i, r = (xs.toList.zip ys.toList).drop i) _
  case turn =>
    rintro ⟨x, y⟩ r b s' ⟨hb, rfl, i, hi⟩
    have lt : i < (xs.toList.zip ys.toList).length := by
      rcases Nat.lt_or_ge i (xs.toList.zip ys.toList).length with z | z
      · exact z
      · rw [List.drop_of_length_le z] at hi
        cases hi
    rw [List.drop_eq_getElem_cons lt] at hi
    obtain ⟨hxy, hr⟩ := List.cons.inj hi
    have i1 : i < xs.size := by omega
    have i2 : i < ys.size := by omega
    have ex : x = xs[i] := by simpa using congrArg Prod.fst hxy
    have ey : y = ys[i] := by simpa using congrArg Prod.snd hxy
    subst ex ey
    refine wpAny_bind (he i i1 i2 _ _ ?_)
    wp_walk
    exact ⟨rfl, rfl, i + 1, hr⟩
  case fin =>
    rintro ⟨b1, b2⟩ s' ⟨hb, rfl, i, hi⟩
    simp only at hb
    subst hb
    wp_walk
    show R (.ok (.ret (.bool (xs.size != ys.size)))) _
    rw [hz]
    simpa using hR
  case h => exact ⟨rfl, rfl, 0, rfl⟩
theorem lstNeLoop (p q : Addr) (xs ys : Array Value) (m k : Nat) (dp dq : Option Addr) (tp tq : Array (Option Value)) (hz : xs.size = ys.size) (c : Nat) : ∀ i : Nat, xs.size - i = c → MeetsIn prog w (Builtin.«list.__eq__.loop» ⟨[.ref p, .ref q, rawInt i, rawInt 3], []⟩) (fun A R s => s.heap.get? p = some ⟨.type "list", dp, .seq xs m, tp⟩ ∧ s.heap.get? q = some ⟨.type "list", dq, .seq ys k, tq⟩ ∧
    (∀ j (i1 : j < xs.size) (i2 : j < ys.size), EqP prog w A.in1 s xs[j] ys[j] true) ∧ R (.ok (.ret (.bool false))) s) := by
  induction c with
  | zero =>
    intro i hc A R s hh
    obtain ⟨h0, g0, d0, t0, o0⟩ := s
    obtain ⟨e1, e2, he, hR⟩ := hh
    wp_walk using wpAny_loadPart' e1, wpAny_loadPart' e2
    have n1 : xs[((i : Nat) : Int).toNat]? = none := by simp; omega
    have n2 : ys[((i : Nat) : Int).toNat]? = none := by simp; omega
    rw [n1, n2]
    wp_walk using wpAny_loadPart' e1, wpAny_loadPart' e2
    show R (.ok (.ret (.bool (xs.size != ys.size)))) _
    rw [hz]
    simpa using hR
  | succ c ih =>
    intro i hc A R s hh
    obtain ⟨h0, g0, d0, t0, o0⟩ := s
    obtain ⟨e1, e2, he, hR⟩ := hh
    wp_walk using wpAny_loadPart' e1, wpAny_loadPart' e2
    have l1 : i < xs.size := by omega
    have l2 : i < ys.size := by omega
    have n1 : xs[((i : Nat) : Int).toNat]? = some xs[i] := by simp [l1]
    have n2 : ys[((i : Nat) : Int).toNat]? = some ys[i] := by simp [l2]
    have nx : ((i : Int) + 1) = ((i + 1 : Nat) : Int) := by push_cast; rfl
    rw [n1, n2]
    refine wpAny_bind (he i l1 l2 _ _ ?_)
    wp_walk
    rw [nx]
    refine ⟨plainId_quiet PySem.MeetsSeq3.plain_eq_loop _, codeAny_builtin PySem.MeetsSeq3.entry_eq_loop ?_⟩
    rw [Around.under_plainId PySem.MeetsSeq3.plain_eq_loop _]
    exact ih (i + 1) (by omega) A R _ ⟨e1, e2, he, hR⟩
theorem lstNe (p q : Addr) (xs ys : Array Value) (m k : Nat) (dp dq : Option Addr) (tp tq : Array (Option Value)) (hz : xs.size = ys.size) : MeetsIn prog w (Builtin.«list.__ne__» ⟨[.ref p, .ref q], []⟩) (fun A R s => s.heap.get? p = some ⟨.type "list", dp, .seq xs m, tp⟩ ∧ s.heap.get? q = some ⟨.type "list", dq, .seq ys k, tq⟩ ∧
    (∀ j (i1 : j < xs.size) (i2 : j < ys.size), EqP prog w A.in1 s xs[j] ys[j] true) ∧ R (.ok (.ret (.bool false))) s) := by
  intro A R s hh
  obtain ⟨h0, g0, d0, t0, o0⟩ := s
  obtain ⟨e1, e2, he, hR⟩ := hh
  have sb := AutoSeq1.sub_list_list
  have ne : ¬ (xs.size != ys.size) = true := by simp [hz]
  wp_walk using wpAny_loadPart' e1, wpAny_loadPart' e2
  refine ⟨plainId_quiet PySem.MeetsSeq3.plain_eq_loop _, codeAny_builtin PySem.MeetsSeq3.entry_eq_loop ?_⟩
  rw [Around.under_plainId PySem.MeetsSeq3.plain_eq_loop _]
  exact lstNeLoop p q xs ys m k dp dq tp tq hz _ 0 rfl A R _ ⟨e1, e2, he, hR⟩
variable {A : Around} {s : Shared} {p q : Addr} {xs ys : Array Value}
theorem rc_tupEq (hp : s.heap.IsTuple p xs) (hq : s.heap.IsTuple q ys) (hz : xs.size = ys.size) (hu : A.units < cLine) (he : ∀ j (i1 : j < xs.size) (i2 : j < ys.size), EqP prog w A.in1 s xs[j] ys[j] true) (E Q : Value → Shared → Prop) (h : Q (.bool true) s) :
    wpAny (model prog w) A (richCompare .Eq (.ref p) (.ref q)) Q E s := by
  obtain ⟨⟨c1, d1, a1, b1⟩, o1, k1, n1, z1⟩ := id hp
  obtain ⟨⟨c2, d2, a2, b2⟩, o2, k2, n2, z2⟩ := id hq
  simp only at k1 z1 k2 z2
  subst k1 z1 k2 z2
  have t1 : s.TypeIs (.ref p) "tuple" := ⟨_, o1, rfl⟩
  have t2 : s.TypeIs (.ref q) "tuple" := ⟨_, o2, rfl⟩
  exact wpAny_richCompare_same_room (op := .Eq) t1 t2 F.slot_tuple_eq (call_meetsIn F.slot_tuple_eq t1 F.entry_tuple_eq (F.args_tuple_eq_2 _ _) (tupEq p q xs ys n1 n2 d1 d2 b1 b2 hz) ⟨o1, o2, he, (fun x => nomatch x), h⟩) hu
theorem rc_tupNe (hp : s.heap.IsTuple p xs) (hq : s.heap.IsTuple q ys) (hz : xs.size = ys.size) (hu : A.units < cLine) (he : ∀ j (i1 : j < xs.size) (i2 : j < ys.size), EqP prog w A.in1 s xs[j] ys[j] true) (E Q : Value → Shared → Prop) (h : Q (.bool false) s) :
    wpAny (model prog w) A (richCompare .NotEq (.ref p) (.ref q)) Q E s := by
  obtain ⟨⟨c1, d1, a1, b1⟩, o1, k1, n1, z1⟩ := id hp
  obtain ⟨⟨c2, d2, a2, b2⟩, o2, k2, n2, z2⟩ := id hq
  simp only at k1 z1 k2 z2
  subst k1 z1 k2 z2
  have t1 : s.TypeIs (.ref p) "tuple" := ⟨_, o1, rfl⟩
  have t2 : s.TypeIs (.ref q) "tuple" := ⟨_, o2, rfl⟩
  exact wpAny_richCompare_same_room (op := .NotEq) t1 t2 F.slot_tuple_ne (call_meetsIn F.slot_tuple_ne t1 F.entry_tuple_ne (F.args_tuple_ne_2 _ _) (tupNe p q xs ys n1 n2 d1 d2 b1 b2 hz) ⟨o1, o2, he, (fun x => nomatch x), h⟩) hu
theorem rc_lstNe (hp : s.heap.IsList p xs) (hq : s.heap.IsList q ys) (hz : xs.size = ys.size) (hu : A.units < cLine) (he : ∀ j (i1 : j < xs.size) (i2 : j < ys.size), EqP prog w A.in1 s xs[j] ys[j] true) (E Q : Value → Shared → Prop) (h : Q (.bool false) s) :
    wpAny (model prog w) A (richCompare .NotEq (.ref p) (.ref q)) Q E s := by
  obtain ⟨⟨c1, d1, a1, b1⟩, o1, k1, n1, z1⟩ := id hp
  obtain ⟨⟨c2, d2, a2, b2⟩, o2, k2, n2, z2⟩ := id hq
  simp only at k1 z1 k2 z2
  subst k1 z1 k2 z2
  have t1 : s.TypeIs (.ref p) "list" := ⟨_, o1, rfl⟩
  have t2 : s.TypeIs (.ref q) "list" := ⟨_, o2, rfl⟩
  exact wpAny_richCompare_same_room (op := .NotEq) t1 t2 F.slot_list_ne (call_meetsIn F.slot_list_ne t1 F.entry_list_ne (F.args_list_ne_2 _ _) (lstNe p q xs ys n1 n2 d1 d2 b1 b2 hz) ⟨o1, o2, he, (fun x => nomatch x), h⟩) hu
end
section
variable {prog : Program} {w : World} {A : Around} {s : Shared} {K : Type} [DecidableEq K] {knd : KeyKind prog w K}
theorem rc_dctNe {a b : Addr} {ka kb : List (K × Value)} {r : Bool} (ha : (a == sysModules) = false) (hb : (b == sysModules) = false) (da : s.heap.DictOf knd a ka) (db : s.heap.DictOf knd b kb) (hu : A.units < cLine) (hits : ka.length = kb.length → PySem.W.KeqHitsP prog w A.in1 s kb ka r)
    (E Q : Value → Shared → Prop) (h : Q (.bool (!(ka.length == kb.length && r))) s) : wpAny (model prog w) A (richCompare .NotEq (.ref a) (.ref b)) Q E s := by
  refine wpAny_richCompare_same_room (op := .NotEq) da.typeIs db.typeIs PySem.F.slot_dict_ne (wpAny_call_entry PySem.F.slot_dict_ne da.typeIs PySem.F.entry_dict_ne ?_ (PySem.F.args_dict_ne_2 _ _)) hu
  show wpAny _ _ (Builtin.Dict.dictSlotArgs "__ne__" ⟨[.ref a, .ref b], []⟩ >>= _) _ _ s
  refine wpAny_bind ?_
  unfold Builtin.Dict.dictSlotArgs
  refine wpAny_bind (wpAny_notOrdered_dict da.typeIs ?_)
  show wpAny _ _ (pure (Value.ref a, Value.ref b)) _ _ s
  refine wpAny_pure ?_
  refine wpAny_bind (wpAny_isInstance (T := "dict") db.typeIs PySem.F.sub_dict_dict ?_)
  rw [if_neg (by decide)]
  refine wpAny_bind (wpAny_pure ?_)
  refine wpAny_bind (wpAny_pure ?_)
  refine wpAny_bind (PySem.W.samePairsP ha hb da db hits ?_)
  refine wpAny_pure ⟨_, rfl, (fun x => nomatch x), ?_⟩
  simpa using h
end
end RC

namespace RC
open PySem PySem.Spec PyProof.Rows L2
/-- where the modules stand, a dict stands -/
def SysD (h : Heap) : Prop := ∃ o es ep, h.get? sysModules = some o ∧ o.data = .dict es ep
def NDX (h : Heap) : Prop := h.NoDigits ∧ SysD h
theorem SysD.keep {h h' : Heap} (x : SysD h) (k : ∀ b o, h.get? b = some o → h'.get? b = some o) : SysD h' := by
  obtain ⟨o, es, ep, a, b⟩ := x
  exact ⟨o, es, ep, k _ _ a, b⟩
theorem SysD.ne {h : Heap} (x : SysD h) {a : Addr} {o : Obj} {vs : Array Value} {n : Nat} (e : h.get? a = some o) (d : o.data = .seq vs n) : a ≠ sysModules := by
  rintro rfl
  obtain ⟨o', es, ep, a1, b1⟩ := x
  rw [e] at a1
  cases a1
  rw [d] at b1
  cases b1
section
variable {X : Cx} {pins : List (Addr × Obj)} {σ : L2.St} {H : Hp} {s : Shared}
theorem key_reads {k : Key} {u : Value} {h : Heap} (hk : keyIs k u = true) : Reads h u (kD k) [] := by
  rcases keyIs_shape hk with ⟨i, t, rfl, rfl⟩ | ⟨x, t, rfl, rfl⟩
  · exact .int i t
  · exact .str x t
mutual
theorem Dn.reads (I : Inv X pins σ H s) (sy : SysD s.heap) : ∀ {v : V} {d : PyData}, Dn X.K H v d → ∀ {u : Value}, RelV v u → ∃ as, Reads s.heap u d as ∧ sysModules ∉ as
  | _, _, .non, _, r => by cases r; exact ⟨_, .none, by simp⟩
  | _, _, .bl b, _, r => by cases r; exact ⟨_, .bool b, by simp⟩
  | _, _, .int i, _, r => by obtain ⟨t, rfl⟩ := r; exact ⟨_, .int i t, by simp⟩
  | _, _, .str x, _, r => by obtain ⟨t, rfl⟩ := r; exact ⟨_, .str x t, by simp⟩
  | _, _, .lst h q, _, r => by
    cases r
    obtain ⟨its, rv, ⟨o, n, ho, hc, _, hd⟩, _⟩ := I.list h
    obtain ⟨as, hr, hn⟩ := DnAll.reads I sy q rv
    refine ⟨_, .list ho hc hd hr, ?_⟩
    intro z
    rcases List.mem_cons.mp z with z | z
    · exact sy.ne ho hd z.symm
    · exact hn z
  | _, _, .tup h q, _, r => by
    cases r
    obtain ⟨its, rv, ⟨o, ho, hc, n, hd⟩, _⟩ := I.tuple h
    obtain ⟨as, hr, hn⟩ := DnAll.reads I sy q rv
    exact ⟨_, .tuple ho hc hd hr, hn⟩
  | _, _, .dct h q, _, r => by
    cases r
    obtain ⟨_, hm, vs, rv, o, es, ep, ho, hx, hd, hk, hp, _⟩ := dk_rd I.hok h
    obtain ⟨as, bs, h1, h2, n1, n2⟩ := DnKv.reads I sy q rv hp
    refine ⟨_, .dict ho hx.1 hd h1 h2, ?_⟩
    intro z
    rcases List.mem_cons.mp z with z | z
    · rw [← z] at hm
      simp at hm
    · rcases List.mem_append.mp z with z | z
      · exact n1 z
      · exact n2 z
theorem DnAll.reads (I : Inv X pins σ H s) (sy : SysD s.heap) : ∀ {vs : List V} {ds : List PyData}, DnAll X.K H vs ds → ∀ {us : List Value}, Vals vs us → ∃ as, ReadsAll s.heap us ds as ∧ sysModules ∉ as
  | _, _, .nil, _, r => by cases r; exact ⟨_, .nil, by simp⟩
  | _, _, .cons h t, _, r => by
    cases r with
    | cons r1 r2 =>
      obtain ⟨as, h1, n1⟩ := Dn.reads I sy h r1
      obtain ⟨bs, h2, n2⟩ := DnAll.reads I sy t r2
      exact ⟨_, .cons h1 h2, by simp [n1, n2]⟩
theorem DnKv.reads (I : Inv X pins σ H s) (sy : SysD s.heap) : ∀ {kvs : List (Key × V)} {ds : List (PyData × PyData)}, DnKv X.K H kvs ds → ∀ {vs : List (Key × Value)} {es : List DictEntry}, KV kvs vs → Pairs (mixKind X.prog X.w) es vs →
    ∃ as bs, ReadsAll s.heap (es.map (·.key)) (ds.map (·.1)) as ∧ ReadsAll s.heap (es.map (·.val)) (ds.map (·.2)) bs ∧ sysModules ∉ as ∧ sysModules ∉ bs
  | _, _, .nil, _, _, r, p => by
    cases r
    cases p
    exact ⟨_, _, .nil, .nil, by simp, by simp⟩
  | _, _, .cons h t, _, _, r, p => by
    cases r with
    | cons r1 r2 =>
      cases p with
      | cons k1 v1 p2 =>
        obtain ⟨e1, e2⟩ := r1
        obtain ⟨as, bs, h1, h2, n1, n2⟩ := DnKv.reads I sy t r2 p2
        rw [← v1] at e2
        obtain ⟨cs, h3, n3⟩ := Dn.reads I sy h e2
        rw [← e1] at k1
        exact ⟨_, _, .cons (key_reads k1) h1, .cons h3 h2, by simpa using n1, by simp [n3, n2]⟩
end
end
section
variable {X : Cx}
theorem SysD.now {pins : List (Addr × Obj)} {σ : L2.St} {H : Hp} {s : Shared} (x : SysD X.base) (I : Inv X pins σ H s) : SysD s.heap := x.keep fun b o e => (I.env0.bs b o e).1
/-- repr of data of any depth -/
def rReprQ (K : PySem.W.Frag) : List V → Hp → VK → Prop := fun xs H Q => ∃ v d, xs = [v] ∧ Dn K H v d ∧ d.showable = true ∧ d.depth ≤ 60 ∧ d.shown.length ≤ sizeLine ∧ Q (.str d.shown) H
theorem cr_reprQ (hy : SysD X.base) (hg : X.A.guards = some []) (hu : X.A.units + 64 < cLine) : CallR X (.builtin "repr") (rReprQ X.K) := by
  intro pins s σ H xs us Q I r h
  obtain ⟨v, d, rfl, hd, hs, hp, hz, q⟩ := h
  obtain ⟨u, rfl, ru⟩ := vals1 r
  obtain ⟨as, rd, ns⟩ := hd.reads I (hy.now I) ru
  cases hd with
  | non =>
    cases (show u = Value.none from ru)
    refine PySem.P.repr_of_none ⟨.str _, H, I.tok _, ⟨_, rfl⟩, ?_⟩
    simpa only [PyData.shown] using q
  | bl b =>
    cases (show u = Value.bool b from ru)
    refine PySem.P.repr_of_bool ⟨.str _, H, I.tok _, ⟨_, rfl⟩, ?_⟩
    simpa only [PyData.shown] using q
  | int i =>
    obtain ⟨t, rfl⟩ := ru
    refine PySem.P.repr_of_int (by simpa [PyData.showable] using hs) ⟨.str _, H, I.tok _, ⟨_, rfl⟩, ?_⟩
    simpa only [PyData.shown] using q
  | str x =>
    obtain ⟨t, rfl⟩ := ru
    refine PySem.P.repr_of_str ⟨.str _, H, I.tok _, ⟨_, rfl⟩, ?_⟩ (by simpa only [PyData.shown] using hz)
    simpa only [PyData.shown] using q
  | lst h1 h2 =>
    cases ru
    exact repr_of_reads' rd hs (fun _ => ns) hg (by omega) (fun _ _ e => e) (fun h' u tk k => ⟨.str _, H, I.kept k, ⟨_, rfl⟩, q⟩) hz
  | tup h1 h2 =>
    cases ru
    exact repr_of_reads' rd hs (fun _ => ns) hg (by omega) (fun _ _ e => e) (fun h' u tk k => ⟨.str _, H, I.kept k, ⟨_, rfl⟩, q⟩) hz
  | dct h1 h2 =>
    cases ru
    exact repr_of_reads' rd hs (fun _ => ns) hg (by omega) (fun _ _ e => e) (fun h' u tk k => ⟨.str _, H, I.kept k, ⟨_, rfl⟩, q⟩) hz
/-! equal data -/
end
/-- one step of being equal: lists, dicts frozen or not -/
def EqQ (K : PySem.W.Frag) (H : Hp) (E : V → V → Prop) (x y : V) : Prop := EqR K H E x y ∨
  (∃ a b ks ls, x = .ref a ∧ y = .ref b ∧ Rd H a (.dK ks) ∧ Rd H b (.dK ls) ∧ ks.length = ls.length ∧ ∀ p ∈ ks, ∃ u, valV ls p.1 = some u ∧ E p.2 u) ∨
  ∃ a b xs ys, x = .ref a ∧ y = .ref b ∧ SqT K H a xs ∧ SqT K H b ys ∧ Paired E xs ys
theorem eqQ_run {X : Cx} {pins : List (Addr × Obj)} {σ : L2.St} {H : Hp} {s : Shared} (I : Inv X pins σ H s) {A : Around} {F : V → V → Prop} (hu : A.units < cLine)
    (ih : ∀ x y v u, F x y → RelV x v → RelV y u → SeqAt.EqP X.prog X.w A.in1 s v u true) {x y : V} {v u : Value} (h : EqQ X.K H F x y) (rx : RelV x v) (ry : RelV y u) (E Q : Value → Shared → Prop) (q : Q (.bool true) s) :
    wpAny (model X.prog X.w) A (richCompare .Eq v u) Q E s := by
  rcases h with h | ⟨a, b, ks, ls, rfl, rfl, ha, hb, hl, hp⟩ | ⟨a, b, xs, ys, rfl, rfl, ha, hb, hp⟩
  · exact eqR_run I hu ih h rx ry E Q q
  · obtain rfl : v = Value.ref a := rx
    obtain rfl : u = Value.ref b := ry
    obtain ⟨_, na, wa, ka, oa⟩ := dk_rd I.hok ha
    obtain ⟨_, nb, wb, kb, ob⟩ := dk_rd I.hok hb
    have hz : wa.length = wb.length := by rw [← ka.length, ← kb.length]; exact hl
    refine PySem.W.rcP_dicts na nb oa ob hu (fun _ => hits_run ih kb ka hp) E Q ?_
    simpa [hz] using q
  · obtain rfl : v = Value.ref a := rx
    obtain rfl : u = Value.ref b := ry
    obtain ⟨us, r1, p1, _⟩ := I.tuple ha
    obtain ⟨ws, r2, p2, _⟩ := I.tuple hb
    have hsz : us.toArray.size = ws.toArray.size := by
      rw [List.size_toArray, List.size_toArray, ← r1.length, ← r2.length]
      exact Paired.length hp
    refine rc_tupEq p1 p2 hsz hu (fun j h1 h2 => ?_) E Q q
    simpa using items_run ih hp r1 r2 j (by simpa using h1) (by simpa using h2)
/-- the same for != -/
theorem neQ_run {X : Cx} {pins : List (Addr × Obj)} {σ : L2.St} {H : Hp} {s : Shared} (I : Inv X pins σ H s) {A : Around} {F : V → V → Prop} (hu : A.units < cLine)
    (ih : ∀ x y v u, F x y → RelV x v → RelV y u → SeqAt.EqP X.prog X.w A.in1 s v u true) {x y : V} {v u : Value} (h : EqQ X.K H F x y) (rx : RelV x v) (ry : RelV y u) (E Q : Value → Shared → Prop) (q : Q (.bool false) s) :
    wpAny (model X.prog X.w) A (richCompare .NotEq v u) Q E s := by
  have dcts : ∀ a b ks ls, x = .ref a → y = .ref b → Rd H a (.dK ks) → Rd H b (.dK ls) → ks.length = ls.length → (∀ p ∈ ks, ∃ u, valV ls p.1 = some u ∧ F p.2 u) → wpAny (model X.prog X.w) A (richCompare .NotEq v u) Q E s := by
    rintro a b ks ls rfl rfl ha hb hl hp
    obtain rfl : v = Value.ref a := rx
    obtain rfl : u = Value.ref b := ry
    obtain ⟨_, na, wa, ka, oa⟩ := dk_rd I.hok ha
    obtain ⟨_, nb, wb, kb, ob⟩ := dk_rd I.hok hb
    have hz : wa.length = wb.length := by rw [← ka.length, ← kb.length]; exact hl
    refine rc_dctNe (r := true) na nb oa ob hu (fun _ => hits_run ih kb ka hp) E Q ?_
    simpa [hz] using q
  rcases h with (⟨a, b, xs, ys, rfl, rfl, ha, hb, hp⟩ | ⟨a, b, ks, ls, e1, e2, ha, hb, hl, hp⟩) | ⟨a, b, ks, ls, e1, e2, ha, hb, hl, hp⟩ | ⟨a, b, xs, ys, rfl, rfl, ha, hb, hp⟩
  · obtain rfl : v = Value.ref a := rx
    obtain rfl : u = Value.ref b := ry
    obtain ⟨us, r1, p1, _⟩ := I.list ha
    obtain ⟨ws, r2, p2, _⟩ := I.list hb
    have hsz : us.toArray.size = ws.toArray.size := by
      rw [List.size_toArray, List.size_toArray, ← r1.length, ← r2.length]
      exact Paired.length hp
    refine rc_lstNe p1.isList p2.isList hsz hu (fun j h1 h2 => ?_) E Q q
    simpa using items_run ih hp r1 r2 j (by simpa using h1) (by simpa using h2)
  · exact dcts a b ks ls e1 e2 (.inl ha) (.inl hb) hl hp
  · exact dcts a b ks ls e1 e2 ha hb hl hp
  · obtain rfl : v = Value.ref a := rx
    obtain rfl : u = Value.ref b := ry
    obtain ⟨us, r1, p1, _⟩ := I.tuple ha
    obtain ⟨ws, r2, p2, _⟩ := I.tuple hb
    have hsz : us.toArray.size = ws.toArray.size := by
      rw [List.size_toArray, List.size_toArray, ← r1.length, ← r2.length]
      exact Paired.length hp
    refine rc_tupNe p1 p2 hsz hu (fun j h1 h2 => ?_) E Q q
    simpa using items_run ih hp r1 r2 j (by simpa using h1) (by simpa using h2)
def EqW (K : PySem.W.Frag) (H : Hp) : Nat → V → V → Prop
  | 0 => fun _ _ => False
  | n + 1 => fun x y => (∃ d, Dp K H x d ∧ Dp K H y d ∧ SeqAt.shaped d = true) ∨ EqQ K H (EqW K H n) x y
theorem shaped_depth {d : PyData} (h : SeqAt.shaped d = true) : d.canLay0 = true ∧ d.depth ≤ 64 := by
  unfold SeqAt.shaped at h
  rw [Bool.and_eq_true] at h
  exact ⟨h.1, of_decide_eq_true h.2⟩
section
variable {X : Cx} {pins : List (Addr × Obj)} {σ : L2.St} {H : Hp} {s : Shared}
theorem eqW_run (I : Inv X pins σ H s) : ∀ (n : Nat) (A : Around), A.units + n + 65 < cLine → ∀ (x y : V) (v u : Value), EqW X.K H n x y → RelV x v → RelV y u → SeqAt.EqP X.prog X.w A s v u true
  | 0, _, _, _, _, _, _, h, _, _ => (show False from h).elim
  | n + 1, A, hu, x, y, v, u, h, rx, ry => by
    rcases h with ⟨d, d1, d2, sh⟩ | h
    · obtain ⟨as, r1⟩ := Dp.reads I d x v d1 rx
      obtain ⟨bs, r2⟩ := Dp.reads I d y u d2 ry
      have hd := shaped_depth sh
      have := SeqAt.eqAt_reads d d A s v u as bs r1 r2 hd.1 hd.1 (by omega)
      rw [SeqAt.eqv_refl d hd.1] at this
      exact this.eqP
    · have step := eqQ_run I (A := A) (by omega) (eqW_run I n A.in1 (by show A.units + 1 + n + 65 < cLine; omega)) h rx ry
      obtain ⟨a, b, rfl, rfl⟩ : ∃ a b, x = .ref a ∧ y = .ref b := by
        rcases h with (⟨a, b, _, _, e1, e2, _⟩ | ⟨a, b, _, _, e1, e2, _⟩) | ⟨a, b, _, _, e1, e2, _⟩ | ⟨a, b, _, _, e1, e2, _⟩
        · exact ⟨a, b, e1, e2⟩
        · exact ⟨a, b, e1, e2⟩
        · exact ⟨a, b, e1, e2⟩
        · exact ⟨a, b, e1, e2⟩
      cases (show v = Value.ref a from rx)
      cases (show u = Value.ref b from ry)
      by_cases e : a = b
      · subst e
        exact (SeqAt.EqAt.same _).eqP
      · exact SeqAt.eqP_refs e step
end
mutual
/-- its dicts have each key once; what is no dict is of the plain shape -/
def dOk : PyData → Prop
  | .list ds => dOkA ds
  | .dict kvs => (kvs.map (·.1)).Nodup ∧ dOkK kvs
  | .tuple ds => dOkA ds
  | .none => True
  | .bool _ => True
  | .int _ => True
  | .str x => SeqAt.shaped (.str x) = true
def dOkA : List PyData → Prop
  | [] => True
  | d :: r => dOk d ∧ dOkA r
def dOkK : List (PyData × PyData) → Prop
  | [] => True
  | p :: r => dOk p.2 ∧ dOkK r
end
section
variable {K : PySem.W.Frag} {H : Hp}
theorem kD_inj {a b : Key} (h : kD a = kD b) : a = b := by
  cases a <;> cases b <;> simp [kD] at h <;> rw [h]
theorem DnKv.key : ∀ {kvs : List (Key × V)} {ds : List (PyData × PyData)}, DnKv K H kvs ds → ds.map (·.1) = (kvs.map (·.1)).map kD
  | _, _, .nil => rfl
  | _, _, .cons h t => by
    have := DnKv.key t
    simp only [List.map_cons] at this ⊢
    rw [this]
theorem nd_of_map {γ δ : Type} (f : γ → δ) : ∀ {l : List γ}, (l.map f).Nodup → l.Nodup
  | [], _ => List.nodup_nil
  | x :: r, h => by
    rw [List.map_cons, List.nodup_cons] at h
    exact List.nodup_cons.mpr ⟨fun z => h.1 (List.mem_map.mpr ⟨x, z, rfl⟩), nd_of_map f h.2⟩
theorem valV_nd : ∀ {ls : List (Key × V)} {i : Nat} {k : Key} {u : V}, (ls.map (·.1)).Nodup → ls[i]? = some (k, u) → valV ls k = some u
  | [], i, k, u, _, h => by simp at h
  | q :: r, 0, k, u, _, h => by
    cases (Option.some.inj (show some q = some (k, u) from h))
    exact valV_pos rfl
  | q :: r, i + 1, k, u, nd, h => by
    have nd' := List.nodup_cons.mp nd
    have h' : r[i]? = some (k, u) := by simpa using h
    rw [valV_neg]
    · exact valV_nd nd'.2 h'
    · intro e
      exact nd'.1 (List.mem_map.mpr ⟨(k, u), List.mem_of_getElem? h', e.symm⟩)
mutual
theorem Dn.eqW : ∀ {x y : V} {d : PyData} {n : Nat}, Dn K H x d → Dn K H y d → dOk d → d.depth < n → EqW K H n x y
  | _, _, _, 0, _, _, _, hn => absurd hn (Nat.not_lt_zero _)
  | _, _, _, n + 1, .non, h, _, _ => by cases h; exact .inl ⟨_, .non, .non, by decide⟩
  | _, _, _, n + 1, .bl b, h, _, _ => by cases h; exact .inl ⟨_, .bl b, .bl b, by cases b <;> decide⟩
  | _, _, _, n + 1, .int i, h, _, _ => by cases h; exact .inl ⟨_, .int i, .int i, rfl⟩
  | _, _, _, n + 1, .str z, h, ok, _ => by cases h; exact .inl ⟨_, .str z, .str z, ok⟩
  | _, _, _, n + 1, .tup a q, h, ok, hn => by
    cases h with
    | tup b q2 => exact .inr (.inr (.inr ⟨_, _, _, _, rfl, rfl, a, b, DnAll.eqW q q2 ok (by simpa [PyData.depth] using hn)⟩))
  | _, _, _, n + 1, .lst a q, h, ok, hn => by
    cases h with
    | lst b q2 => exact .inr (.inl (.inl ⟨_, _, _, _, rfl, rfl, a, b, DnAll.eqW q q2 ok (by simpa [PyData.depth] using hn)⟩))
  | _, _, _, n + 1, .dct (ds := ds) a q, h, ok, hn => by
    cases h with
    | @dct _ kvs2 _ b q2 =>
      have ok' : (ds.map (·.1)).Nodup ∧ dOkK ds := ok
      have hl : PyData.depthKv ds < n := by simpa [PyData.depth] using hn
      obtain ⟨h1, h2⟩ := DnKv.eqW q q2 ok'.2 hl
      refine .inr (.inr (.inl ⟨_, _, _, _, rfl, rfl, a, b, h1, fun p hp => ?_⟩))
      obtain ⟨i, hi⟩ := List.getElem?_of_mem hp
      obtain ⟨u, hu, hw⟩ := h2 i p hi
      refine ⟨u, ?_, hw⟩
      have nd : (kvs2.map (·.1)).Nodup := by
        have := ok'.1
        rw [q2.key] at this
        exact nd_of_map _ this
      exact valV_nd nd hu
theorem DnKv.eqW : ∀ {xs ys : List (Key × V)} {ds : List (PyData × PyData)} {n : Nat}, DnKv K H xs ds → DnKv K H ys ds → dOkK ds → PyData.depthKv ds < n →
    xs.length = ys.length ∧ ∀ (i : Nat) (p : Key × V), xs[i]? = some p → ∃ u, ys[i]? = some (p.1, u) ∧ EqW K H n p.2 u
  | _, _, _, _, .nil, h, _, _ => by
    cases h
    exact ⟨rfl, fun i p h => by simp at h⟩
  | _, _, _, n, .cons (k := k) (d := d) a t, h, ok, hn => by
    generalize hds : ((kD k, d) :: _ : List (PyData × PyData)) = dd at h
    cases h with
    | nil => cases hds
    | cons a2 t2 =>
      injection hds with e1 e2
      injection e1 with e3 e4
      have e5 := kD_inj e3
      subst e5
      subst e4
      subst e2
      have hn' := hn
      simp only [PyData.depthKv] at hn'
      obtain ⟨h1, h2⟩ := DnKv.eqW (n := n) t t2 ok.2 (by omega)
      refine ⟨by rw [List.length_cons, List.length_cons, h1], fun i p hp => ?_⟩
      cases i with
      | zero =>
        cases hp
        exact ⟨_, rfl, Dn.eqW a a2 ok.1 (show d.depth < n by omega)⟩
      | succ i =>
        obtain ⟨u, hu, hw⟩ := h2 i p (by simpa using hp)
        exact ⟨u, by simpa using hu, hw⟩
theorem DnAll.eqW : ∀ {xs ys : List V} {ds : List PyData} {n : Nat}, DnAll K H xs ds → DnAll K H ys ds → dOkA ds → PyData.depthAll ds < n → Paired (EqW K H n) xs ys
  | _, _, _, _, .nil, h, _, _ => by cases h; exact .nil
  | _, _, _, _, .cons a t, h, ok, hn => by
    cases h with
    | cons a2 t2 =>
      have hn' := hn
      simp only [PyData.depthAll] at hn'
      exact .cons (Dn.eqW a a2 ok.1 (by omega)) (DnAll.eqW t t2 ok.2 (by omega))
end
end
section
variable {X : Cx}
def rEqW (K : PySem.W.Frag) : R2 := fun x y H Q => ∃ d, Dn K H x d ∧ Dn K H y d ∧ dOk d ∧ d.depth ≤ 60 ∧ Q (.bl true) H
theorem op_eqW (hu : X.A.units + 128 < cLine) : OpR X (compareOp .Eq) (rEqW X.K) := by
  intro pins s σ H x y v u Q I rx ry h
  obtain ⟨d, d1, d2, ok, hd, q⟩ := h
  have w := Dn.eqW (n := 61) d1 d2 ok (by omega)
  rcases w with ⟨d', e1, e2, sh⟩ | w
  · refine op_eqD (X := X) (by omega) pins s σ H x y v u Q I rx ry ⟨d', d', e1, e2, sh, sh, ?_⟩
    rw [SeqAt.eqv_refl d' (shaped_depth sh).1]
    exact q
  · exact eqQ_run I (A := X.A) (by omega) (eqW_run I 60 X.A.in1 (by show X.A.units + 1 + 60 + 65 < cLine; omega)) w rx ry _ _ ⟨.bl true, H, I, rfl, q⟩
def rNeW (K : PySem.W.Frag) : R2 := fun x y H Q => ∃ d, Dn K H x d ∧ Dn K H y d ∧ dOk d ∧ d.depth ≤ 60 ∧ Q (.bl false) H
theorem op_neW (hu : X.A.units + 128 < cLine) : OpR X (compareOp .NotEq) (rNeW X.K) := by
  intro pins s σ H x y v u Q I rx ry h
  obtain ⟨d, d1, d2, ok, hd, q⟩ := h
  have w := Dn.eqW (n := 61) d1 d2 ok (by omega)
  rcases w with ⟨d', e1, e2, sh⟩ | w
  · refine op_neD (X := X) (by omega) pins s σ H x y v u Q I rx ry ⟨d', d', e1, e2, sh, sh, ?_⟩
    rw [SeqAt.eqv_refl d' (shaped_depth sh).1]
    exact q
  · exact neQ_run I (A := X.A) (by omega) (eqW_run I 60 X.A.in1 (by show X.A.units + 1 + 60 + 65 < cLine; omega)) w rx ry _ _ ⟨.bl false, H, I, rfl, q⟩
def uNeQ (K : PySem.W.Frag) : R2 := fun x y H Q => uNe K x y H Q ∨ rNeW K x y H Q
def uEqQ (K : PySem.W.Frag) : R2 := fun x y H Q => uEq K x y H Q ∨ rEqW K x y H Q
theorem uo_eqQ (hu : X.A.units + 128 < cLine) : OpR X (compareOp .Eq) (uEqQ X.K) := (uo_eq (by omega)).or (op_eqW hu)
theorem uo_neQ (hu : X.A.units + 128 < cLine) : OpR X (compareOp .NotEq) (uNeQ X.K) := (uo_ne (by omega)).or (op_neW hu)
theorem units128 {k : Nat} {A : Around} (hr : Room k A) : A.units + 128 < cLine := by
  have := hr.un
  have := hr.dp
  omega
end
end RC

namespace RC
open PySem PySem.Spec PyProof.Rows L2
section
variable {κ α : Type} {K : PySem.W.Frag} {ik : κ → Key} {e : α → PyData} {m : List (κ × α)} {Rs : List Res} {H : Hp} {Q : VK} {σ : L2.St} {D : Ends} {p : Addr}
theorem M.gotDD (S : M Rs H) (j : Nat) (hj : Rs[j]? = some (adR K ik e p m)) : Dn K H (.ref p) (eD ik e m) := by
  obtain ⟨kvs, h, t⟩ := S.gotDk j hj
  exact .dct (.inl h) t.kv.dn
/-! ### a dict of lists of one's own -/
abbrev OE := Str × Addr × List Int
def olsR (es : List OE) : Res := ⟨fun _ l => l = es.map fun q => (q.2.1, HO.lst (q.2.2.map V.int)), fun _ _ _ _ h => h⟩
def oM (es : List OE) : List (Str × List Int) := es.map fun q => (q.1, q.2.2)
def oK (es : List OE) : List (Key × V) := es.map fun q => (iS q.1, V.ref q.2.1)
def adoR (p : Addr) (m : List (Str × List Int)) : Res := exi fun es => prp (oM es = m) (sp2 (pt p (.dK (oK es))) (olsR es))
variable {es : List OE} {om : List (Str × List Int)}
theorem ado_open (S : M (adoR p om :: Rs) H) : ∃ es, oM es = om ∧ M (pt p (.dK (oK es)) :: olsR es :: Rs) H := by
  obtain ⟨es, S⟩ := S.ex
  obtain ⟨h, S⟩ := S.pr
  exact ⟨es, h, S.sp⟩
theorem ado_close (h : oM es = om) (S : M (pt p (.dK (oK es)) :: olsR es :: Rs) H) : M (adoR p om :: Rs) H := M.ex' es (M.pr' h S.sp')
theorem ado_new (S : M (pt p (.dK []) :: Rs) H) : M (adoR p [] :: Rs) H := by
  refine ado_close (es := []) rfl ?_
  obtain ⟨F, L, ⟨l1, l2, rfl, a, b⟩, mm⟩ := S
  exact ⟨F, _, ⟨l1, l2, rfl, a, [], l2, rfl, rfl, b⟩, mm⟩
theorem ols_take {l1 l2 : List OE} {n : Str} {a : Addr} {ns : List Int} (S : M (olsR (l1 ++ (n, a, ns) :: l2) :: Rs) H) : M (pt a (.lst (ns.map V.int)) :: olsR (l1 ++ l2) :: Rs) H := by
  obtain ⟨F, L, ⟨q1, q2, rfl, rfl, b⟩, mm⟩ := S
  refine (⟨F, _, ⟨[(a, _)], _, rfl, rfl, _, q2, rfl, rfl, b⟩, mm.perm ?_⟩ : M (pt a (.lst (ns.map V.int)) :: olsR (l1 ++ l2) :: Rs) H)
  simp only [List.map_append, List.map_cons, List.cons_append, List.append_assoc, List.nil_append]
  exact List.perm_middle
theorem ols_give {l1 l2 : List OE} {n : Str} {a : Addr} {ns : List Int} (S : M (pt a (.lst (ns.map V.int)) :: olsR (l1 ++ l2) :: Rs) H) : M (olsR (l1 ++ (n, a, ns) :: l2) :: Rs) H := by
  obtain ⟨F, L, ⟨q0, q1, rfl, rfl, q2, q3, rfl, rfl, b⟩, mm⟩ := S
  refine (⟨F, _, ⟨_, q3, rfl, rfl, b⟩, mm.perm ?_⟩ : M (olsR (l1 ++ (n, a, ns) :: l2) :: Rs) H)
  simp only [List.map_append, List.map_cons, List.cons_append, List.append_assoc, List.nil_append]
  exact List.perm_middle.symm
theorem oK_val {n : Str} {ns : List Int} : ∀ {es : List OE}, lk (oM es) n = some ns → ∃ l1 l2 a, es = l1 ++ (n, a, ns) :: l2 ∧ valV (oK es) (iS n) = some (.ref a) ∧ lk (oM l1) n = none
  | [], h => by cases h
  | q :: es, h => by
    have h' : lk ((q.1, q.2.2) :: oM es) n = some ns := h
    rw [lk_cons] at h'
    by_cases z : q.1 = n
    · rw [if_pos z] at h'
      cases h'
      subst z
      exact ⟨[], es, q.2.1, rfl, valV_pos rfl, rfl⟩
    · rw [if_neg z] at h'
      obtain ⟨l1, l2, a, rfl, h2, h3⟩ := oK_val h'
      refine ⟨q :: l1, l2, a, rfl, ?_, ?_⟩
      · show valV ((iS q.1, V.ref q.2.1) :: oK _) (iS n) = _
        rw [valV_neg (fun e => z (injS _ _ e))]
        exact h2
      · show lk ((q.1, q.2.2) :: oM l1) n = none
        rw [lk_cons, if_neg z]
        exact h3
/-- the list of a name, by itself -/
theorem ado_at {n : Str} {ns : List Int} (S : M (adoR p om :: Rs) H) (h : lk om n = some ns) : ∃ l1 l2 a, oM (l1 ++ (n, a, ns) :: l2) = om ∧ lk (oM l1) n = none ∧ valV (oK (l1 ++ (n, a, ns) :: l2)) (iS n) = some (.ref a) ∧
    M (pt p (.dK (oK (l1 ++ (n, a, ns) :: l2))) :: pt a (.lst (ns.map V.int)) :: olsR (l1 ++ l2) :: Rs) H := by
  obtain ⟨es, he, S1⟩ := ado_open S
  rw [← he] at h
  obtain ⟨l1, l2, a, e, h2, h3⟩ := oK_val h
  subst e
  exact ⟨l1, l2, a, he, h3, h2, M.sub (.cons 2 rfl (.refl _)) (ols_take (S1.at 1 rfl))⟩
def upK (n : Str) (f : List Int → List Int) : List (Str × List Int) → List (Str × List Int)
  | [] => []
  | q :: r => if q.1 = n then (q.1, f q.2) :: r else q :: upK n f r
theorem upK_mid {n : Str} {f : List Int → List Int} {ns : List Int} {l2 : List (Str × List Int)} : ∀ {l1 : List (Str × List Int)}, lk l1 n = none → upK n f (l1 ++ (n, ns) :: l2) = l1 ++ (n, f ns) :: l2
  | [], _ => by simp [upK]
  | q :: l1, h => by
    rw [lk_cons] at h
    by_cases z : q.1 = n
    · rw [if_pos z] at h
      cases h
    · rw [if_neg z] at h
      show (if q.1 = n then (q.1, f q.2) :: (l1 ++ (n, ns) :: l2) else q :: upK n f (l1 ++ (n, ns) :: l2)) = _
      rw [if_neg z, upK_mid h]
      rfl
theorem ado_back {n : Str} {ns ms : List Int} {l1 l2 : List OE} {a : Addr} {f : List Int → List Int} (h1 : oM (l1 ++ (n, a, ns) :: l2) = om) (h2 : lk (oM l1) n = none) (hf : f ns = ms)
    (S : M (pt p (.dK (oK (l1 ++ (n, a, ns) :: l2))) :: pt a (.lst (ms.map V.int)) :: olsR (l1 ++ l2) :: Rs) H) : M (adoR p (upK n f om) :: Rs) H := by
  refine ado_close (es := l1 ++ (n, a, ms) :: l2) ?_ ?_
  · rw [← h1]
    unfold oM at *
    rw [List.map_append, List.map_cons, List.map_append, List.map_cons, upK_mid h2, hf]
  · have e : oK (l1 ++ (n, a, ms) :: l2) = oK (l1 ++ (n, a, ns) :: l2) := by
      unfold oK
      rw [List.map_append, List.map_cons, List.map_append, List.map_cons]
    rw [e]
    exact M.sub (.cons 1 rfl (.refl _)) (ols_give (S.at 1 rfl |> M.sub (.cons 0 rfl (.cons 1 rfl (.refl _)))))
/-- d[n].append(x) -/
theorem ado_rd (S : M Rs H) (j : Nat) (hj : Rs[j]? = some (adoR p om)) {n : Str} {ns : List Int} (h : lk om n = some ns) : ∃ kvs a, H p = some (.dK kvs) ∧ valV kvs (iS n) = some (.ref a) ∧ SqL K H a (ns.map V.int) ∧
    ∀ (x : Int) (Q' : VK), ns.length < 100000 → (∀ H', M (adoR p (upK n (fun l => l ++ [x]) om) :: Rs.eraseIdx j) H' → Q' .non H') → rAppend (.ref a) [.int x] H Q' := by
  obtain ⟨l1, l2, a, h1, h2, h3, S1⟩ := ado_at (S.at j hj) h
  refine ⟨_, a, S1.got 0 rfl, h3, SqL.of (S1.got 1 rfl), fun x Q' hz k => ?_⟩
  refine v_app S1 1 rfl (by rw [List.length_map]; exact hz) fun H' S2 => k H' (ado_back (ms := ns ++ [x]) h1 h2 rfl ?_)
  rw [List.map_append]
  exact S2
theorem v_ixO {n : Str} {a : Addr} {kvs : List (Key × V)} (h1 : H p = some (.dK kvs)) (h2 : valV kvs (iS n) = some (.ref a)) (k : Q (.ref a) H) : rIxK (.ref p) (.str n) H Q := v_ixKS h1 h2 k
theorem ado_keys (h : oM es = om) : (oK es).map (·.1) = (ks om).map Sum.inr := by
  subst h
  unfold oK oM ks
  rw [List.map_map, List.map_map, List.map_map]
  rfl
theorem v_sortO (S : M Rs H) (j : Nat) (hj : Rs[j]? = some (adoR p om)) (hz : (ks om).length < 64) (k : ∀ q H', M (acR K q ((srtS' (ks om)).map eS) :: Rs) H' → Q (.ref q) H') : rSortDS [.ref p] H Q := by
  obtain ⟨es, he, S1⟩ := ado_open (S.at j hj)
  refine ⟨p, _, ks om, rfl, .inl (S1.got 0 rfl), ado_keys he, hz, fun ys q hp hs hn => ?_⟩
  rw [srtS_eq hp hs]
  exact k q _ (S.new hn).ownS
/-- d[n] = a list of one's own -/
theorem pk_oM {n : Str} {a : Addr} {ns : List Int} {es : List OE} (h : lk (oM es) n = none) : pk (oM es) n ns = oM (es ++ [(n, a, ns)]) ∧ putK (oK es) (iS n) (.ref a) = oK (es ++ [(n, a, ns)]) := by
  have h1 : ((oM es).any fun p => decide (p.1 = n)) = false := by rw [any_lk, h]; rfl
  have h2 : ((oK es).any fun p => decide (p.1 = iS n)) = false := by
    unfold oK oM at *
    rw [List.any_map] at *
    rw [← h1]
    congr 1
    funext q
    exact decide_eq_decide.mpr ⟨fun z => injS _ _ z, fun z => congrArg iS z⟩
  constructor
  · unfold pk
    rw [h1]
    simp [oM]
  · unfold putK
    rw [h2]
    simp [oK]
theorem v_putO {n : Str} {a : Addr} {ns : List Int} {Q : Hp → Prop} (S : M (pt a (.lst (ns.map V.int)) :: adoR p om :: Rs) H) (h : lk om n = none) (hz : om.length < 100000) (k : ∀ H', M (adoR p (pk om n ns) :: Rs) H' → Q H') : uSet (.ref p) (.str n) (.ref a) H Q := by
  obtain ⟨es, he, S1⟩ := ado_open (S.at 1 rfl)
  subst he
  have hp := pk_oM (a := a) (ns := ns) h
  have hl : (oK es).length < 100000 := by
    have : (oK es).length = (oM es).length := by simp [oK, oM]
    omega
  refine v_putS S1 0 rfl hl fun H' S2 => k H' ?_
  refine ado_close (es := es ++ [(n, a, ns)]) hp.1.symm ?_
  rw [← hp.2]
  have S3 : M (pt a (.lst (ns.map V.int)) :: olsR (es ++ []) :: pt p (.dK (putK (oK es) (iS n) (.ref a))) :: Rs) H' := by
    rw [List.append_nil]
    exact M.sub (.cons 2 rfl (.cons 1 rfl (.cons 0 rfl (.refl _)))) S2
  exact M.sub (.cons 1 rfl (.refl _)) (ols_give S3)
theorem map_off {γ : Type} {l : List (Str × γ)} {n : Str} {x : γ} (h : n ∉ ks l) : l.map (fun p => if p.1 = n then (p.1, x) else p) = l := by
  induction l with
  | nil => rfl
  | cons q l ih =>
    have h1 : q.1 ≠ n := fun z => h (by rw [← z]; exact List.mem_cons_self)
    rw [List.map_cons, if_neg h1, ih fun z => h (List.mem_cons_of_mem _ z)]
theorem pk_at {γ : Type} {l1 l2 : List (Str × γ)} {n : Str} {x y : γ} (h1 : n ∉ ks l1) (h2 : n ∉ ks l2) : pk (l1 ++ (n, y) :: l2) n x = l1 ++ (n, x) :: l2 := by
  unfold pk
  rw [if_pos (by simp), List.map_append, List.map_cons, map_off h1, map_off h2, if_pos rfl]
theorem nd_off {γ : Type} {l1 l2 : List (Str × γ)} {n : Str} {y : γ} (nd : (ks (l1 ++ (n, y) :: l2)).Nodup) : n ∉ ks l1 ∧ n ∉ ks l2 := by
  unfold ks at *
  rw [List.map_append, List.map_cons, List.nodup_append] at nd
  obtain ⟨_, h2, h3⟩ := nd
  exact ⟨fun z => h3 n z n List.mem_cons_self rfl, (List.nodup_cons.mp h2).1⟩
theorem oK_at {l1 l2 : List OE} {n : Str} {a b : Addr} {ns ms : List Int} (h1 : n ∉ ks (oM l1)) (h2 : n ∉ ks (oM l2)) : putK (oK (l1 ++ (n, a, ns) :: l2)) (iS n) (.ref b) = oK (l1 ++ (n, b, ms) :: l2) := by
  have off : ∀ {l : List OE}, n ∉ ks (oM l) → (oK l).map (fun kv => if kv.1 = iS n then (kv.1, V.ref b) else kv) = oK l := by
    intro l h
    induction l with
    | nil => rfl
    | cons q l ih =>
      have z1 : q.1 ≠ n := fun z => h (by rw [← z]; exact List.mem_cons_self)
      have z2 : ¬ iS q.1 = iS n := fun z => z1 (injS _ _ z)
      show (if iS q.1 = iS n then _ else _) :: _ = _
      rw [if_neg z2]
      exact congrArg _ (ih fun z => h (List.mem_cons_of_mem _ z))
  unfold putK
  rw [if_pos (by simp [oK])]
  have e1 : oK (l1 ++ (n, a, ns) :: l2) = oK l1 ++ (iS n, .ref a) :: oK l2 := by simp [oK]
  have e2 : oK (l1 ++ (n, b, ms) :: l2) = oK l1 ++ (iS n, .ref b) :: oK l2 := by simp [oK]
  rw [e1, e2, List.map_append, List.map_cons, off h1, off h2, if_pos rfl]
theorem v_putO2 {n : Str} {a : Addr} {ns : List Int} {Q : Hp → Prop} (S : M (pt a (.lst (ns.map V.int)) :: adoR p om :: Rs) H) (nd : (ks om).Nodup) (hz : om.length < 100000) (k : ∀ H', M (adoR p (pk om n ns) :: Rs) H' → Q H') : uSet (.ref p) (.str n) (.ref a) H Q := by
  cases h : lk om n with
  | none => exact v_putO S h hz k
  | some ms =>
    obtain ⟨es, he, S1⟩ := ado_open (S.at 1 rfl)
    subst he
    obtain ⟨l1, l2, b, e, h2, h3⟩ := oK_val h
    subst e
    have e0 : oM (l1 ++ (n, b, ms) :: l2) = oM l1 ++ (n, ms) :: oM l2 := by simp [oM]
    rw [e0] at nd
    obtain ⟨n1, n2⟩ := nd_off nd
    have hl : (oK (l1 ++ (n, b, ms) :: l2)).length < 100000 := by
      have : (oK (l1 ++ (n, b, ms) :: l2)).length = (oM (l1 ++ (n, b, ms) :: l2)).length := by simp [oK, oM]
      omega
    refine v_putS S1 0 rfl hl fun H' S2 => k H' ?_
    refine ado_close (es := l1 ++ (n, a, ns) :: l2) ?_ ?_
    · rw [e0, pk_at n1 n2]
      simp [oM]
    · rw [← oK_at (a := b) (ns := ms) n1 n2]
      have S3 := ols_take (S2.at 1 rfl)
      exact M.sub (.cons 1 rfl (.refl _)) (ols_give (n := n) (M.sub (.cons 3 rfl (.cons 1 rfl (.cons 1 rfl (.tl (.refl _))))) S3))
/-- its lists are data from now on -/
theorem ado_ad (S : M (adoR p om :: Rs) H) : M (adR K iS (eL eI) p om :: Rs) H := by
  obtain ⟨es, he, S1⟩ := ado_open S
  subst he
  have go : ∀ (es2 : List OE) {Rs : List Res}, M (olsR es2 :: Rs) H → M (tkR K iS (eL eI) (oK es2) (oM es2) :: Rs) H := by
    intro es2
    induction es2 with
    | nil =>
      intro Rs S
      obtain ⟨F, L, ⟨l1, l2, rfl, h1, b⟩, mm⟩ := S
      exact ⟨F, l2, ⟨[], l2, rfl, ⟨rfl, .nil⟩, b⟩, mm.perm (by rw [show l1 = [] from h1]; exact .refl _)⟩
    | cons q r ih =>
      intro Rs S
      obtain ⟨n, a, ns⟩ := q
      have S2 := ols_take (l1 := []) S
      have S3 := ih (S2.at 1 rfl |> M.sub (.cons 0 rfl (.cons 0 rfl (.refl _))))
      have S4 := (S3.at 1 rfl).fix
      obtain ⟨F, L, ⟨l1, l2, rfl, ⟨rfl, fp⟩, l3, l4, rfl, ⟨rfl, t⟩, b⟩, mm⟩ := S4
      exact ⟨F, l4, ⟨[], l4, rfl, ⟨rfl, .cons (.lst (.inl (.inl fp)) (dqAll_ints ns)) t⟩, b⟩, mm⟩
  have S2 := go es (S1.at 1 rfl |> M.sub (.cons 0 rfl (.cons 0 rfl (.refl _))))
  exact adR_close (S2.at 1 rfl)
theorem v_lenO (S : M Rs H) (j : Nat) (hj : Rs[j]? = some (adoR p om)) (k : Q (.int (om.length : Nat)) H) : uLen K [.ref p] H Q := by
  obtain ⟨es, he, S1⟩ := ado_open (S.at j hj)
  refine v_lenD (S1.got 0 rfl) ?_
  rw [show (oK es).length = om.length from by rw [← he]; simp [oK, oM]]
  exact k
theorem acR_pt {a : Addr} {ns : List Int} (S : M (acR K a (ns.map eI) :: Rs) H) : M (pt a (.lst (ns.map V.int)) :: Rs) H := by
  obtain ⟨vs, S1⟩ := S.ex
  have S2 := S1.sp
  have h := (S2.gotAA 1 rfl).ints
  subst h
  exact M.sub (.cons 0 rfl (.tl (.refl _))) S2
theorem dc_G {β κ γ : Type} [DecidableEq κ] {e : β → PyData} {sv : β → V} {xs : List β} {v : V} (f : Fl e sv) (AR : Addr → List (κ × γ) → Res) (hnew : ∀ E H, M (pt E (.dK []) :: Rs) H → M (AR E [] :: Rs) H) {tk tv : TE} {tt : TT} {g : TG} {ws : List Nat} {F : β → List (κ × γ) → (Option (κ × γ) → Prop) → Prop} {KK : List (κ × γ) → Prop} (hf : xs.length ≤ 100000 ∧ dcD F xs [] KK) (S : M Rs H) (hrd : ∀ H, M Rs H → Dq K H v (eL e xs))
    (hs : ∀ x (acc : List (κ × γ)) E H (kk : Option (κ × γ) → Prop) (N : Hp → Prop), acc.length < 100000 → M (AR E acc :: Rs) H → F x acc kk →
      (∀ q H, kk (some q) → M (AR E (pk acc q.1 q.2) :: Rs) H → N H) → (∀ H, kk none → M (AR E acc :: Rs) H → N H) → g (sv x) (wipe σ ws) H fun σ2 H2 => wipe σ2 ws = wipe σ ws ∧ tt σ2 H2 fun b H3 =>
      if b = true then tk σ2 H3 fun y H4 => tv σ2 H4 (DcK N E y) else N H3)
    (hd : ∀ E (acc : List (κ × γ)) H, KK acc → M (AR E acc :: Rs) H → Q (.ref E) H) : ItL K (fun J H1 => DcW J g tt tk tv ws σ Q H1) v H := by
  obtain ⟨a, rfl, h⟩ := f.lst (hrd H S)
  refine v_itL h ?_
  obtain ⟨hz, hf⟩ := hf
  intro E hE
  refine ⟨fun i m H => m = xs.length - i ∧ i ≤ xs.length ∧ ∃ acc, dcD F (xs.drop i) acc KK ∧ acc.length ≤ i ∧ M (AR E acc :: Rs) H, ⟨_, rfl, Nat.zero_le _, [], by simpa using hf, Nat.le_refl _, hnew E _ (S.new hE)⟩, ?_⟩
  rintro i m H1 ⟨rfl, hi, acc, hf, ha, S1⟩
  have hq : SqL K H1 a (xs.map sv) := by
    obtain ⟨b, eb, q⟩ := f.lst (hrd H1 S1.tl)
    cases eb
    exact q
  rcases Nat.lt_or_ge i xs.length with hlt | hge
  · right
    rw [List.drop_eq_getElem_cons hlt] at hf
    refine ⟨⟨xs.map sv, sv xs[i], hq, by rw [List.getElem?_map, List.getElem?_eq_getElem hlt]; rfl⟩, fun H => ∃ acc, dcD F (xs.drop (i + 1)) acc KK ∧ acc.length ≤ i + 1 ∧ M (AR E acc :: Rs) H, fun H' h => ⟨xs.length - (i + 1), by omega, rfl, hlt, h⟩, ?_⟩
    rintro x H' ⟨rfl, hx⟩
    have hx' := hx _ hq
    rw [List.getElem?_map, List.getElem?_eq_getElem hlt] at hx'
    cases hx'
    exact hs _ acc E H' _ _ (by omega) S1 hf (fun q H hk S => ⟨_, hk, Nat.le_trans (pk_len _ _ _) (by omega), S⟩) (fun H hk S => ⟨acc, hk, by omega, S⟩)
  · left
    have e0 : i = xs.length := by omega
    subst e0
    rw [List.drop_length] at hf
    exact ⟨⟨xs.map sv, hq, by rw [List.length_map]; exact Nat.le_refl _⟩, hd E acc H1 hf S1⟩
theorem v_dcO {N : Hp → Prop} {n : Str} {a : Addr} {ns : List Int} (S : M (acR K a (ns.map eI) :: adoR p om :: Rs) H) (h : lk om n = none) (hz : om.length < 100000) (k : ∀ H', M (adoR p (pk om n ns) :: Rs) H' → N H') : DcK N p (.str n) (.ref a) H := by
  have q := v_putO (Q := N) (acR_pt S) h hz k
  rcases q with ⟨_, _, _, _, _, hx, _⟩ | ⟨p', H', hp, hd, hq⟩
  · cases hx
  · cases hp
    rcases hd with ⟨kvs, k', h1, h2, h3, rfl⟩ | ⟨kvs, k', b, h1, h2, _⟩
    · exact ⟨kvs, k', h2, h1, h3, hq⟩
    · cases h2
/-! ### dict(pairs) -/
def rDictP (K : PySem.W.Frag) : List V → Hp → VK → Prop := fun xs H Q => ∃ (a : Addr) (ps : List Addr) (kvs : List (Key × V)), xs = [.ref a] ∧ SqL K H a (ps.map V.ref) ∧ Paired (fun p kv => SqT K H p [kV kv.1, kv.2]) ps kvs ∧ ∀ p, H p = none → Q (.ref p) (upd H p (.dK (mergeK [] kvs)))
theorem cr_dictP {X : Cx} (h : X.calm = true) : CallR X (.type "dict") (rDictP X.K) := call_dictP h
def dOf {κ γ : Type} [DecidableEq κ] (ps : List (κ × γ)) : List (κ × γ) := ps.foldl (fun acc q => pk acc q.1 q.2) []
theorem v_dictp {e : α → PyData} {v : V} {ps : List (Str × α)} (S : M Rs H) (j : Nat) (hj : Rs[j]? = some (da K v (eL (eP eS e) ps))) (k : ∀ p H', M (adR K iS e p (dOf ps) :: Rs) H' → Q (.ref p) H') : rDictP K [v] H Q := by
  obtain ⟨F, L, s, mm⟩ := S
  cases EnF.at j hj F L s with
  | @lst a vs _ hs q =>
    have key : ∀ {ps : List (Str × α)} {vs : List V}, DqAll K F vs (ps.map (eP eS e)) → ∃ as kvs, vs = as.map V.ref ∧ Paired (fun p (kv : Key × V) => SqT K F p [kV kv.1, kv.2]) as kvs ∧ TKv K F iS e kvs ps := by
      intro ps
      induction ps with
      | nil =>
        intro vs h
        cases h
        exact ⟨[], [], rfl, .nil, .nil⟩
      | cons q ps ih =>
        intro vs h
        cases h with
        | cons d t =>
          obtain ⟨as, kvs, rfl, h2, h3⟩ := ih t
          cases d with
          | @tup b ws _ hb ht =>
            cases ht with
            | cons d1 t1 =>
              cases t1 with
              | cons d2 t2 =>
                cases t2
                have e1 := d1.strV
                subst e1
                exact ⟨b :: as, (iS q.1, _) :: kvs, rfl, .cons hb h2, .cons d2 h3⟩
    obtain ⟨as, kvs, rfl, h2, h3⟩ := key q
    refine ⟨a, as, kvs, rfl, mm.ex.sqL hs, Paired.mapP h2 fun p kv z => mm.ex.sqT z, fun p hp => k p _ ?_⟩
    have mg : ∀ {ps : List (Str × α)} {kvs acc : List (Key × V)} {ac : List (Str × α)}, TKv K F iS e kvs ps → TKv K F iS e acc ac → TKv K F iS e (mergeK acc kvs) (ps.foldl (fun acc q => pk acc q.1 q.2) ac) := by
      intro ps
      induction ps with
      | nil =>
        intro kvs acc ac h1 h2
        cases h1
        exact h2
      | cons q ps ih =>
        intro kvs acc ac h1 h2
        cases h1 with
        | @cons k' _ _ _ _ d t =>
          have z := ih t (h2.put (k := k') injS d)
          exact z
    have S0 : M (tkR K iS e (mergeK [] kvs) (dOf ps) :: Rs) H := ⟨F, L, ⟨[], L, rfl, ⟨rfl, mg h3 .nil⟩, s⟩, mm⟩
    exact adR_close (S0.new hp)
end
section
variable {α β : Type} {K : PySem.W.Frag} {e : α → PyData} {Rs : List Res} {H : Hp} {Q : VK} {σ : L2.St} {D : Ends} {p : Addr}
/-- a dict that is walked -/
def adL {κ : Type} (K : PySem.W.Frag) (ik : κ → Key) (e : α → PyData) (p : Addr) (od : Obj) (kvs : List (Key × V)) (m : List (κ × α)) : Res := sp2 (pt p (.frz od (.dK kvs))) (tkR K ik e kvs m)
theorem v_ixlS {m : List (Str × α)} {n : Str} {x : α} {od : Obj} {kvs : List (Key × V)} (S : M Rs H) (j : Nat) (hj : Rs[j]? = some (adL K iS e p od kvs m)) (hx : lk m n = some x) (k : ∀ u, M (da K u (e x) :: Rs) H → Q u H) : rIxK (.ref p) (.str n) H Q := by
  have S1 := (S.at j hj).sp
  obtain ⟨F, L, ⟨l1, l2, rfl, a, l3, l4, rfl, ⟨rfl, t⟩, b⟩, mm⟩ := id S1
  obtain ⟨v, h1, h2⟩ := t.some injS hx
  refine ⟨p, v, rfl, .inl ⟨kvs, Sum.inr n, .inr ⟨od, S1.got 0 rfl⟩, rfl, h1.symm⟩, k v ?_⟩
  have b' : Sat F (adL K iS e p od kvs m :: Rs.eraseIdx j) (l1 ++ l4) := ⟨l1, l4, rfl, ⟨l1, [], by simp, a, rfl, t⟩, b⟩
  obtain ⟨L', pp, sat⟩ := b'.perm (perm_at j hj).symm
  exact ⟨F, L', ⟨[], L', rfl, ⟨rfl, h2⟩, sat⟩, mm.perm (by simpa using pp)⟩
theorem tkv_get {κ : Type} {ik : κ → Key} : ∀ {kvs : List (Key × V)} {m : List (κ × α)}, TKv K H ik e kvs m → ∀ {i : Nat} {k : Key} {v : V}, kvs[i]? = some (k, v) → ∃ q, (ks m)[i]? = some q ∧ k = ik q
  | _, _, .nil, i, k, v, h => by simp at h
  | _, _, .cons h t, 0, k, v, g => by
    cases (Option.some.inj (show some _ = some (k, v) from g))
    exact ⟨_, rfl, rfl⟩
  | _, _, .cons h t, i + 1, k, v, g => by
    obtain ⟨q, a, b⟩ := tkv_get t (i := i) (k := k) (v := v) (by simpa using g)
    exact ⟨q, by simpa [ks] using a, b⟩
theorem lc_keysS {te : TE} {tt : TT} {g : TG} {ws : List Nat} {m : List (Str × α)} {F : Str → (Option β → Prop) → Prop} {e' : β → PyData} {KK : List β → Prop} {i : Nat} (hf : (ks m).length ≤ 100000 ∧ lcD F (ks m) [] KK) (S : M Rs H) (j : Nat) (hj : Rs[j]? = some (adR K iS e p m)) (hi : σ[i]? = some (some (.ref p)))
    (hs : ∀ od kvs x (acc : List β) E H (kk : Option β → Prop) (N : Hp → Prop), (acc.map e').length < 100000 → M (acR K E (acc.map e') :: adL K iS e p od kvs m :: Rs.eraseIdx j) H → F x kk →
      (∀ y H, kk (some y) → M (acR K E (acc.map e' ++ [e' y]) :: adL K iS e p od kvs m :: Rs.eraseIdx j) H → N H) → (∀ H, kk none → M (acR K E (acc.map e') :: adL K iS e p od kvs m :: Rs.eraseIdx j) H → N H) → g (.str x) (wipe σ ws) H fun σ2 H2 => wipe σ2 ws = wipe σ ws ∧ tt σ2 H2 fun b H3 =>
      if b = true then te σ2 H3 (LcK N E) else N H3)
    (hd : ∀ E (acc : List β) H, KK acc → M (acR K E (acc.map e') :: adR K iS e p m :: Rs.eraseIdx j) H → Q (.ref E) H) : tLockE (tLc (iKeys (tVar i)) g tt te ws) σ H Q := by
  obtain ⟨hz, hf⟩ := hf
  obtain ⟨kvs, S1⟩ := adR_open S j hj
  refine ⟨p, .dK kvs, S1.got 0 rfl, trivial, fun od => ?_⟩
  have S2 : M (pt p (.frz od (.dK kvs)) :: tkR K iS e kvs m :: Rs.eraseIdx j) (upd H p (.frz od (.dK kvs))) := S1.putAt 0 rfl
  refine ⟨.ref p, hi, p, od, rfl, .inl ⟨kvs, S2.got 0 rfl, ?_⟩⟩
  have S3 : M (adL K iS e p od kvs m :: Rs.eraseIdx j) (upd H p (.frz od (.dK kvs))) := S2.sp'
  have hl : kvs.length = (ks m).length := by
    rw [(S2.gotT 1 rfl).len]
    simp [ks]
  show LcW (Itk p od kvs) g tt te ws σ (fun v H' => H' p = some (.frz od (.dK kvs)) ∧ Q v (upd H' p (.dK kvs))) _
  refine lc_X walk_keys (fun E n H => ∃ acc, lcD F ((ks m).drop n) acc KK ∧ acc.length ≤ n ∧ M (acR K E (acc.map e') :: adL K iS e p od kvs m :: Rs.eraseIdx j) H) (fun E hE => ⟨[], by simpa using hf, Nat.le_refl _, acR_nil (S3.new hE)⟩) (fun E n H _ ⟨acc, _, _, S⟩ => (S.at 1 rfl).sp.got 0 rfl) ?_ ?_
  · rintro E n v H H' hn ⟨acc, hf, ha, S⟩ ⟨rfl, k, u, hk, rfl⟩
    obtain ⟨q, hq, rfl⟩ := tkv_get ((S.at 1 rfl).sp.gotT 1 rfl) hk
    have hn2 : n < (ks m).length := by omega
    rw [List.drop_eq_getElem_cons hn2] at hf
    rw [List.getElem?_eq_getElem hn2] at hq
    cases hq
    refine hs od kvs _ acc E H' _ _ (by rw [List.length_map]; omega) S hf (fun y H hk S => ⟨acc ++ [y], hk, by rw [List.length_append]; simpa using ha, by rw [List.map_append]; exact S⟩) (fun H hk S => ⟨acc, ?_, by omega, S⟩)
    simpa using hk
  · rintro E H ⟨acc, hf, ha, S⟩
    rw [hl, List.drop_length] at hf
    have S4 := (S.at 1 rfl).sp
    refine ⟨S4.got 0 rfl, hd E acc _ hf ?_⟩
    have S5 : M (pt p (.dK kvs) :: tkR K iS e kvs m :: acR K E (acc.map e') :: Rs.eraseIdx j) (upd H p (.dK kvs)) := S4.putAt 0 rfl
    exact M.sub (.cons 1 rfl (.refl _)) (adR_close S5)
end
def jn2 {β γ : Type} (m : (β → γ → Prop) → Prop) (k : β → γ → Prop) : Prop := m k
theorem tt_cutM {β : Type} {tt : TT} {σ : L2.St} {H : Hp} {P : Bool → Hp → Prop} {m : (Bool → β → Prop) → Prop} {KK : Bool → β → Prop} (hf : jn2 m KK) (Inv : β → Hp → Prop) (h1 : ∀ (kk : Bool → β → Prop) (P' : Bool → Hp → Prop), (∀ c s H, kk c s → Inv s H → P' c H) → m kk → tt σ H P')
    (h2 : ∀ c s H, KK c s → Inv s H → P c H) : tt σ H P := h1 KK P h2 hf
theorem te_cutM {β : Type} {te : TE} {σ : L2.St} {H : Hp} {Q : VK} {m : (Bool → β → Prop) → Prop} {KK : Bool → β → Prop} (hf : jn2 m KK) (Inv : β → Hp → Prop) (h1 : ∀ (kk : Bool → β → Prop) (P' : VK), (∀ c s H, kk c s → Inv s H → P' (.bl c) H) → m kk → te σ H P')
    (h2 : ∀ c s H, KK c s → Inv s H → Q (.bl c) H) : te σ H Q := h1 KK Q h2 hf
theorem Dn.by_ {K : PySem.W.Frag} {H : Hp} {v : V} {d e : PyData} (h : d = e) (q : Dn K H v e) : Dn K H v d := h ▸ q
theorem v_lenLI {K : PySem.W.Frag} {H : Hp} {Q : VK} {a : Addr} {ns : List Int} (h : SqL K H a (ns.map V.int)) (k : Q (.int (ns.length : Nat)) H) : uLen K [.ref a] H Q := v_lenL h (by rw [List.length_map]; exact k)
/-! ### alike -/
structure AlkOk (d : PyData) : Prop where
  ok : dOk d
  sh : d.showable = true
  dp : d.depth ≤ 60
  ln : d.shown.length ≤ sizeLine
/-- data of small size, dicts too -/
structure ShQ (dp bk : Nat) (d : PyData) : Prop where
  ok : dOk d
  sh : d.showable = true
  lf : d.leavesShort 400 = true
  dp : d.depth ≤ dp
  bk : d.bulk ≤ bk
theorem ShQ.alk {dp bk : Nat} {d : PyData} (h : ShQ dp bk d) (h1 : dp ≤ 60) (h2 : bk ≤ 40000) : AlkOk d := by
  refine ⟨h.ok, h.sh, Nat.le_trans h.dp h1, ?_⟩
  have z := PyData.shown_le_bulk 400 (by decide) d h.lf
  have b := h.bk
  rw [sizeLine_eq]
  omega
theorem ShQ.up {dp bk dp' bk' : Nat} {d : PyData} (h : ShQ dp bk d) (h1 : dp ≤ dp') (h2 : bk ≤ bk') : ShQ dp' bk' d := ⟨h.ok, h.sh, h.lf, Nat.le_trans h.dp h1, Nat.le_trans h.bk h2⟩
theorem log2_lt {n : Int} (h : n.natAbs < 2 ^ 1000) : n.natAbs.log2 < 1920 := by
  rcases Nat.eq_zero_or_pos n.natAbs with e | e
  · rw [e]
    decide
  · have := (Nat.log2_lt (by omega)).mpr h
    omega
theorem ShQ.int {n : Int} (h : n.natAbs < 2 ^ 1000) : ShQ 0 0 (.int n) := by
  have l := log2_lt h
  refine ⟨trivial, by simpa [PyData.showable] using l, ?_, by simp [PyData.depth], by simp [PyData.bulk]⟩
  have q : (2 : Nat) ^ 1000 < 10 ^ 310 := by decide +kernel
  have z : (PySem.Str.ofString (toString n)).length ≤ 311 := by
    have := int_text_length_le10 (a := n) (k := 310) (by decide) (by omega)
    rw [PySem.ofString_length]
    exact this
  simp only [PyData.leavesShort, PyData.shown]
  exact decide_eq_true (Nat.le_trans z (show 311 ≤ 400 by decide))
theorem ShQ.all {dp bk : Nat} : ∀ {ds : List PyData}, (∀ d ∈ ds, ShQ dp bk d) → dOkA ds ∧ PyData.showableAll ds = true ∧ PyData.leavesShortAll 400 ds = true ∧ PyData.depthAll ds ≤ dp ∧ PyData.bulkAll ds ≤ ds.length * (bk + 1)
  | [], _ => ⟨trivial, rfl, rfl, Nat.zero_le _, by simp [PyData.bulkAll]⟩
  | d :: ds, h => by
    have a := h d List.mem_cons_self
    obtain ⟨h0, h1, h2, h3, h4⟩ := ShQ.all fun x hx => h x (List.mem_cons_of_mem _ hx)
    refine ⟨⟨a.ok, h0⟩, by simp [PyData.showableAll, a.sh, h1], by simp [PyData.leavesShortAll, a.lf, h2], ?_, ?_⟩
    · simp only [PyData.depthAll]
      have := a.dp
      omega
    · simp only [PyData.bulkAll, List.length_cons]
      have := a.bk
      rw [Nat.add_mul]
      omega
theorem ShQ.list {dp bk : Nat} {ds : List PyData} (h : ∀ d ∈ ds, ShQ dp bk d) : ShQ (dp + 1) (ds.length * (bk + 1)) (.list ds) := by
  obtain ⟨h0, h1, h2, h3, h4⟩ := ShQ.all h
  refine ⟨h0, by simpa [PyData.showable] using h1, by simpa [PyData.leavesShort] using h2, ?_, by simpa [PyData.bulk] using h4⟩
  simp only [PyData.depth]
  omega
end RC

namespace RC
open PySem PySem.Spec PyProof.Rows L2
theorem walk_S {l : PySem.W.OpenLaw} {n k : Nat} {q : Program} {loose : List Str} {XP : (Str → Option Value) → Heap → Prop} {YP : World → Heap → Prop} {d : DefRec} {CX : World → CXT} {x : Str}
    (hi : importsNone q = true) (hn : l.most = some n) (hn2 : n ≤ sizeLine) (hdf : d.params.defaults = []) (hr : Room k callerA)
    (F : ∀ (w : World) (mg : Str → Option Value) (fa : Addr) (h : Heap), YP w h → h.Ns mainGlobals mg → mg d.name = some (.ref fa) →
      ∃ (K : PySem.W.Frag) (fd : FuncData) (sp : Sp), K.In h ∧ (∀ (s : Shared) (u : Value), BindsTo s fd ⟨[u], []⟩ [(x, u)]) ∧
        (∀ (H : Hp) (a : Addr) (ns : List Int), ns.length ≤ n → SqL K H a (ns.map V.int) → sp [.ref a] H (fun v _ => v = .bl true) fun _ _ _ => False) ∧
        ∀ base : Heap, K.In base → base.Ns mainGlobals mg → NDX base → FnX true l.prog w K mg base (CX w) k fa fd [x] sp)
    (hCX : ∀ (w : World) (H : Hp) (s : Shared) (e : Value) (s' : Shared), CX w [] H s (fun _ _ _ => False) e s' → False) :
    PySem.W.WalkO q loose XP YP l.row.toRowW d [] (fun f vs => PySem.call f vs) := by
  refine Att.attach_call hn hdf ?_
  intro w s0 s1 mg mb fa o pm cd doc a vs ns G Y ho hd hcd hmg hobj hints hlen hgen
  obtain ⟨K, fd, sp, KX, hb, hsp, hF⟩ := F w mg fa _ Y G.T.g hmg
  exact law_callN KX G.T.g G.T.b G.T.builtins G.T.nolimit (fun h' kp => ⟨nd_keep G.T.nodigits kp, by
      obtain ⟨mm, ⟨o, es, ep, e, d, _⟩, _⟩ := (G.T.seer hi).mods
      exact ⟨o, es, ep, kp _ _ _ _ e d, d⟩⟩) hgen hobj hints
    (Nat.le_trans hlen hn2) hr hF hb (fun H hS => hsp H a ns hlen hS) (fun H e s' => hCX w H s1 e s')
end RC

namespace RC
open PySem PySem.Spec PyProof.Rows L2
/-! ### things of any kind, tuples, comprehensions that change things, exceptions -/
def lcS {α β γ : Type} (f : α → γ → (Option β → γ → Prop) → Prop) : List α → γ → List β → (List β → γ → Prop) → Prop
  | [], s, acc, k => k acc s
  | x :: xs, s, acc, k => f x s fun y s' => lcS f xs s' (acc ++ y.toList) k
def isNo : PyData → Bool
  | .none => true
  | _ => false
def anyAt : PyData → Int → Option PyData
  | .list ds, i => atI ds i
  | .tuple ds, i => atI ds i
  | _, _ => none
section
variable {α β γ : Type} {K : PySem.W.Frag} {Rs : List Res} {H : Hp} {σ : L2.St} {Q : VK} {D : Ends} {v w : V} {d d' : PyData} {p : Addr} {e : α → PyData} {xs ys : List α}
theorem M.cstA (S : M Rs H) (i : Nat) (h0 : Rs[i]? = some (da K v d)) (h : d = d') : M (da K v d' :: Rs) H := h ▸ M.addA S (EnF.at i h0)
theorem v_ixa {i : Int} {x : PyData} (S : M Rs H) (j : Nat) (hj : Rs[j]? = some (da K v d)) (hx : anyAt d i = some x) (k : ∀ u, M (da K u x :: Rs) H → Q u H) : uIx K v (.int i) H Q := by
  cases d with
  | list ds => exact v_ixq S (.inl (EnF.at j hj)) hx k
  | tuple ds => exact v_ixq S (.inr (EnF.at j hj)) hx k
  | _ => cases hx
theorem DqAll.fixT {F : Hp} {L : List Cell} {vs : List V} {ds : List PyData} (s : Sat F Rs L) (m : MemC F L H) (q : DqAll K F vs ds) (k : ∀ p H', M (da K (.ref p) (.tuple ds) :: Rs) H' → Q (.ref p) H') : ∀ p, H p = none → Q (.ref p) (upd H p (.tup vs)) := by
  intro p hp
  have S1 : M (daA K vs ds :: Rs) H := ⟨F, L, ⟨[], L, rfl, ⟨rfl, q⟩, s⟩, m⟩
  refine k p _ ?_
  have S2 : M (pt p (.tup vs) :: daA K vs ds :: Rs) (upd H p (.tup vs)) := S1.new hp
  have S3 : M (da K (.ref p) (.tuple ds) :: daA K vs ds :: Rs) (upd H p (.tup vs)) := S2.fixG (R := da K (.ref p) (.tuple ds)) (φ := fun F => DqAll K F vs ds) (fun F L ⟨_, _, _, a, _⟩ => a.2) fun F q e => ⟨rfl, .tup (.inl (.inl e)) q⟩
  exact M.sub (.cons 0 rfl (.tl (.refl _))) S3
theorem v_slA {lo hi : Option Int} (S : M Rs H) (j : Nat) (hj : Rs[j]? = some (da K v (eV e xs))) (k : ∀ u H', M (da K u (eV e (cutL xs lo hi)) :: Rs) H' → Q u H') : rSlA K v lo hi H Q := by
  obtain ⟨F, L, s, m⟩ := id S
  have d0 := EnF.at j hj F L s
  cases d0 with
  | tup a q =>
    rename_i vs
    refine ⟨_, _, rfl, m.ex.sqT a, fun hw => ?_, fun _ => ?_⟩
    · have hl : vs.length = xs.length := by have := q.len; rwa [List.length_map] at this
      have e1 : cutL xs lo hi = xs := by
        unfold cutL
        rw [← hl, hw.1, hw.2]
        simp [hl]
      refine k _ H ?_
      rw [e1]
      exact S.addA (EnF.at j hj)
    · refine DqAll.fixT s m (q.cut lo hi) fun p H' S' => k _ H' ?_
      unfold eV
      rw [← cutL_map]
      exact S'
theorem v_catA (S : M Rs H) (i j : Nat) (hi : Rs[i]? = some (da K v (eV e xs))) (hj : Rs[j]? = some (da K w (eV e ys))) (hz : xs.length + ys.length ≤ 100000) (k : ∀ u H', M (da K u (eV e (xs ++ ys)) :: Rs) H' → Q u H') : rCatA K v w H Q := by
  obtain ⟨F, L, s, m⟩ := id S
  have d0 := EnF.at i hi F L s
  have d1 := EnF.at j hj F L s
  cases d0 with
  | tup a q =>
    cases d1 with
    | tup a' q' =>
      rename_i vs _ ws
      have l1 := q.len
      have l2 := q'.len
      rw [List.length_map] at l1 l2
      refine ⟨_, _, _, _, rfl, rfl, m.ex.sqT a, m.ex.sqT a', Nat.le_trans (by rw [l1, l2]; exact hz) (by decide), fun z => ?_, fun _ z => ?_, fun _ _ => ?_⟩
      · subst z
        have : xs = [] := List.length_eq_zero_iff.mp l1.symm
        subst this
        exact k _ H (S.addA (EnF.at j hj))
      · subst z
        have : ys = [] := List.length_eq_zero_iff.mp l2.symm
        subst this
        refine k _ H ?_
        rw [List.append_nil]
        exact S.addA (EnF.at i hi)
      · refine DqAll.fixT s m (q.app q') fun p H' S' => k _ H' ?_
        unfold eV
        rw [List.map_append]
        exact S'
theorem isNo_eq (h : Dq K H v d) : isNo d = decide (v = .non) := by
  cases h <;> simp [isNo]
theorem v_isNa (h : Dq K H v d) (k : Q (.bl (isNo d)) H) : rIsN v .non H Q := ⟨rfl, by rw [← isNo_eq h]; exact k⟩
theorem v_notNa (h : Dq K H v d) (k : Q (.bl (!isNo d)) H) : rNotN v .non H Q := ⟨rfl, by rw [← isNo_eq h]; exact k⟩
theorem v_all {bs : List Bool} (h : Dq K H v (eL eB bs)) (k : Q (.bl (bs.all id)) H) : rAll K [v] H Q := by
  obtain ⟨a, rfl, hs⟩ := flB.lst h
  exact ⟨a, bs, rfl, hs, k⟩
/-- pop of one's own dict -/
theorem v_dpopA {κ : Type} {ik : κ → Key} {tb : TE} {m : List (κ × α)} (S : M Rs H) (j : Nat) (hj : Rs[j]? = some (adR K ik e p m)) (k : tb σ H (PopV p Q)) : Pop1K tb σ Q (.ref p) H := by
  obtain ⟨kvs, h, t⟩ := S.gotDk j hj
  exact v_dpop h k
theorem popd_core {κ : Type} [DecidableEq κ] {ik : κ → Key} {m : List (κ × α)} {k : κ} {x : α} (inj : ∀ a b, ik a = ik b → a = b) (S : M Rs H) (j : Nat) (hj : Rs[j]? = some (adR K ik e p m)) (hx : lk m k = some x) :
    ∃ kvs u, H p = some (.dK kvs) ∧ valV kvs (ik k) = some u ∧ M (da K u (e x) :: adR K ik e p (dk m k) :: Rs.eraseIdx j) (upd H p (.dK (dropK kvs (ik k)))) := by
  obtain ⟨kvs, S1⟩ := adR_open S j hj
  have S2 := S1.putAt (o' := .dK (dropK kvs (ik k))) 0 rfl
  obtain ⟨F, L, ⟨l1, l2, rfl, a, l3, l4, rfl, ⟨rfl, t⟩, b⟩, mm⟩ := id S2
  obtain ⟨u, h1, h2⟩ := t.some inj hx
  exact ⟨kvs, u, S1.got 0 rfl, h1, F, _, ⟨[], _, rfl, ⟨rfl, h2⟩, l1, l4, by simp, ⟨_, l1, [], by simp, a, rfl, t.drop inj⟩, b⟩, mm⟩
theorem v_popAS {m : List (Str × α)} {n : Str} {x : α} (S : M Rs H) (j : Nat) (hj : Rs[j]? = some (adR K iS e p m)) (hx : lk m n = some x) (k : ∀ u H', M (da K u (e x) :: adR K iS e p (dk m n) :: Rs.eraseIdx j) H' → Q u H') : PopV p Q (.str n) H := by
  obtain ⟨kvs, u, h1, h2, S2⟩ := popd_core injS S j hj hx
  exact ⟨kvs, Sum.inr n, u, h1, rfl, h2, k u _ S2⟩
theorem v_popAI {m : List (Int × α)} {n : Int} {x : α} (S : M Rs H) (j : Nat) (hj : Rs[j]? = some (adR K iI e p m)) (hx : lk m n = some x) (k : ∀ u H', M (da K u (e x) :: adR K iI e p (dk m n) :: Rs.eraseIdx j) H' → Q u H') : PopV p Q (.int n) H := by
  obtain ⟨kvs, u, h1, h2, S2⟩ := popd_core injI S j hj hx
  exact ⟨kvs, Sum.inl n, u, h1, rfl, h2, k u _ S2⟩
/-- a comprehension over a range that changes things -/
theorem lc_rngS {te : TE} {tt : TT} {g : TG} {ws : List Nat} {F : Int → γ → (Option β → γ → Prop) → Prop} {e' : β → PyData} {n : Int} {s0 : γ} {KK : List β → γ → Prop} (RsF : γ → List Res) (hf : (rng n).length ≤ 100000 ∧ lcS F (rng n) s0 [] KK) (S : M (RsF s0) H)
    (hs : ∀ x (s : γ) (acc : List β) E H (kk : Option β → γ → Prop) (N : Hp → Prop), (acc.map e').length < 100000 → M (acR K E (acc.map e') :: RsF s) H → F x s kk →
      (∀ y s' H, kk (some y) s' → M (acR K E (acc.map e' ++ [e' y]) :: RsF s') H → N H) → (∀ s' H, kk none s' → M (acR K E (acc.map e') :: RsF s') H → N H) → g (.int x) (wipe σ ws) H fun σ2 H2 => wipe σ2 ws = wipe σ ws ∧ tt σ2 H2 fun b H3 =>
      if b = true then te σ2 H3 (LcK N E) else N H3)
    (hd : ∀ E (acc : List β) s H, KK acc s → M (acR K E (acc.map e') :: RsF s) H → Q (.ref E) H) : LcW (Itr 0 n.toNat) g tt te ws σ Q H := by
  obtain ⟨hz, hf⟩ := hf
  rw [rng_len] at hz
  refine lc_X walk_range (fun E i H => ∃ acc s, lcS F ((rng n).drop i) s acc KK ∧ acc.length ≤ i ∧ M (acR K E (acc.map e') :: RsF s) H) (fun E hE => ⟨[], s0, by simpa using hf, Nat.le_refl _, acR_nil (S.new hE)⟩) (fun E i H _ _ => trivial) ?_ ?_
  · rintro E i v H H' hi ⟨acc, s, hf, ha, S⟩ ⟨rfl, rfl⟩
    have hi2 : i < (rng n).length := by rw [rng_len]; exact hi
    rw [List.drop_eq_getElem_cons hi2] at hf
    have e : (rng n)[i] = (0 : Int) + (i : Nat) := Option.some.inj ((List.getElem?_eq_getElem hi2).symm.trans (rng_get hi))
    rw [e] at hf
    refine hs _ s acc E H' _ _ (by rw [List.length_map]; omega) S hf (fun y s' H hk S => ⟨acc ++ [y], s', hk, by rw [List.length_append]; simpa using ha, by rw [List.map_append]; exact S⟩) (fun s' H hk S => ⟨acc, s', ?_, by omega, S⟩)
    simpa using hk
  · rintro E H ⟨acc, s, hf, ha, S⟩
    rw [← rng_len, List.drop_length] at hf
    exact hd E acc s H hf S
/-! in a tuple, in a list of texts -/
theorem inV_str {s : Str} : ∀ xs : List Str, inV (.str s) (xs.map V.str) = xs.any fun y => decide (y = s)
  | [] => rfl
  | x :: xs => by
    have h := inV_str (s := s) xs
    unfold inV at h ⊢
    rw [List.map_cons, List.any_cons, List.any_cons, h]
    congr 1
theorem flat_strs : ∀ xs : List Str, (xs.map V.str).all flatV = true
  | [] => rfl
  | x :: xs => by rw [List.map_cons, List.all_cons, flat_strs xs]; rfl
theorem v_inT {s : Str} {xs : List Str} (h : SqL K H p (xs.map V.str) ∨ SqT K H p (xs.map V.str)) (k : Q (.bl (xs.any fun y => decide (y = s))) H) : uIn K (.str s) (.ref p) H Q :=
  .inl ⟨p, _, rfl, h, rfl, flat_strs xs, by rw [inV_str]; exact k⟩
theorem v_ninT {s : Str} {xs : List Str} (h : SqL K H p (xs.map V.str) ∨ SqT K H p (xs.map V.str)) (k : Q (.bl (!(xs.any fun y => decide (y = s)))) H) : uNotIn K (.str s) (.ref p) H Q :=
  .inl ⟨p, _, rfl, h, rfl, flat_strs xs, by rw [inV_str]; exact k⟩
theorem Dq.sqTS {xs : List Str} (h : Dq K H v (eV eS xs)) : ∃ a, v = .ref a ∧ SqT K H a (xs.map V.str) := by
  cases h with
  | tup a q => exact ⟨_, rfl, (flS.all q) ▸ a⟩
theorem v_inV {s : Str} {xs : List Str} (h : Dq K H v (eV eS xs)) (k : Q (.bl (xs.any fun y => decide (y = s))) H) : uIn K (.str s) v H Q := by
  obtain ⟨a, rfl, hs⟩ := h.sqTS
  exact v_inT (.inr hs) k
theorem v_ninV {s : Str} {xs : List Str} (h : Dq K H v (eV eS xs)) (k : Q (.bl (!(xs.any fun y => decide (y = s)))) H) : uNotIn K (.str s) v H Q := by
  obtain ⟨a, rfl, hs⟩ := h.sqTS
  exact v_ninT (.inr hs) k
theorem eV_any (e : α → PyData) (xs : List α) : eV e xs = eV eA (xs.map e) := by
  unfold eV
  rw [List.map_map]
  rfl
theorem kit_cons {cls c : Value} {cs : List Value} {b d : Bool} (h : PySem.W.kitOne K cls c = some b) (h2 : PySem.W.kitAny K cls cs = some d) : PySem.W.kitAny K cls (c :: cs) = some (b || d) := by
  cases b <;> simp [PySem.W.kitAny, h, h2]
theorem v_hdY {W : WX} {cs : List Value} {sl : Option Nat} {ts : Addr → Value → Option Addr → TS} {r : List Hd} {cls : Value} {dd : Option Addr} (h : PySem.W.exmAny K cls cs = some true) (k : ∀ a, ts a cls dd (Hd.ends D sl) (Hd.put σ a sl) H) : wTry K W D (⟨cs, sl, ts⟩ :: r) cls dd σ H :=
  ⟨true, h, fun _ a _ => k a, fun z => nomatch z⟩
theorem v_hdN {W : WX} {cs : List Value} {sl : Option Nat} {ts : Addr → Value → Option Addr → TS} {r : List Hd} {cls : Value} {dd : Option Addr} (h : PySem.W.exmAny K cls cs = some false) (k : wTry K W D r cls dd σ H) : wTry K W D (⟨cs, sl, ts⟩ :: r) cls dd σ H :=
  ⟨false, h, (fun z => nomatch z), fun _ => k⟩
theorem g_xgv {a C dd : Addr} {fs : List (Str × V)} {n : Str} {i : Nat} (hv : σ[i]? = some (some (.ref a))) (c : ExcC K C) (hn : PySem.W.findIn K (.ref C) n = some none) (h : H dd = some (.xd fs)) (l : fs.lookup n = some v) (k : Q v H) : tXg K a (.ref C) (some dd) n (tVar i) σ H Q :=
  g_xg (g_var hv (v_xg c hn h l k))
theorem v_isXs {a : Addr} {C dd tp : Addr} {fs : List (Str × V)} {cs : List V} {us : List Value} {b : Bool} (c : ExcC K C) (h : H dd = some (.xd fs)) (ht : H tp = some (.tup cs)) (pr : Paired ClsV cs us) (e : PySem.W.kitAny K (.ref C) us = some b) (k : Q (.bl b) H) : uIsX K a (.ref C) (some dd) [.ref a, .ref tp] H Q :=
  .inr ⟨tp, cs, us, b, rfl, ⟨C, rfl, c, .inr ⟨dd, fs, rfl, h⟩⟩, ht, pr, e, k⟩
end
end RC

namespace RC
open PySem PySem.Spec PyProof.Rows L2
/-! ### calls by keywords, defs and methods that may raise -/
section
variable {X : Cx} {CX : CXT} {g : Bool} {k n : Nat} {f C : Addr} {fd : FuncData} {ps ks : List Str} {sp : Sp} {W : WX} {x m : Str} {p pos apos : Pos} {o e : Expr} {es : List Expr} {kws : List Keyword} {t tk : TA} {ta : TE} {gg : List Value → List Value → List Value} {gV : List V → List V → List V}
theorem runWN {pins : List (Addr × Obj)} {σ : L2.St} {H : Hp} {s : Shared} {Q : VK} {E : XK} {us ws : List Value} {vs zs : List V} (F : FnX g X.prog X.w X.K X.mg X.base CX k f fd ps sp) (hg : g = true → X.A.guards = some []) (hr : Room k X.A)
    (hb : KBn X.K fd ps n ks gg gV) (hx : PassesAt CX X σ E) (I : Inv X pins σ H s) (r : Vals vs us) (rz : Vals zs ws) (l1 : vs.length = n) (l2 : zs.length = ks.length) (h : sp (gV vs zs) H Q E) :
    wpAny (model X.prog X.w) X.A (call (.ref f) us (ks.zip ws)) (EP X pins σ Q) X.xe s := by
  have rr := hb.rel r rz
  have go := ended I hx (F.runG X.A X.stack s H ⟨us, ks.zip ws⟩ _ (gg us ws) (gV vs zs) Q E hg hr I.env0 (hb.to s us ws I.kIn (r.length.symm.trans l1) (rz.length.symm.trans l2)) (.refl _) rr h)
  refine wpAny_call (codeAny_mono go fun res s' hq => ?_)
  match res, hq with
  | .error _, hq => exact hq
  | .ok (.ret _), hq => exact hq
/-- o.m(e, .., k = v, ..) -/
def tMethN (n l : Nat) (W : WX) (C : Addr) (m : Str) (sp : Sp) (gV : List V → List V → List V) (ta : TE) (t tk : TA) : TE := fun σ H Q => ta σ H fun x H1 => ∃ a dx fs, x = .ref a ∧ H1 a = some (.ins C dx fs) ∧ fs.lookup m = none ∧ t σ H1 fun vs H2 => tk σ H2 fun zs H3 => vs.length + 1 = n ∧ zs.length = l ∧ sp (gV (x :: vs) zs) H3 Q (WE W σ)
theorem pe_methN {pl : Sem Bool} (he : PE X o ta) (c : Cls X.K C) (hm : Meth X.K C m f) (F : FnX g X.prog X.w X.K X.mg X.base CX k f fd ps sp) (hgu : g = true → X.A.guards = some []) (hr : Room k X.A) (hb : KBn X.K fd ps n ks gg gV)
    (hx : ∀ σ, PassesAt CX X σ (WE W σ)) (ha : PA X (e :: es) t) (hkw : PK X kws tk) (hst : starEach (e :: es) X.env = (false, eval e X.env) :: starEach es X.env := by rfl)
    (hall : (backToKw pos (keywordEach kws X.env)).all (·.1.isSome) = true := by rfl) (hks : (backToKw pos (keywordEach kws X.env)).filterMap (·.1) = ks := by rfl)
    (hpl : ((backTo pos (starEach (e :: es) X.env)).any (·.1) || (backToKw pos (keywordEach kws X.env)).any (·.1.isNone)) = false := by rfl)
    (ht : eval (.Call (.Attribute o m apos) (e :: es) kws pos) X.env = (do
      let ov ← eval o X.env
      standAt apos.atName
      let (f, first) ← holding [ov] (getMethod ov m pl)
      callWith pos f first (backTo pos (starEach (e :: es) X.env)) (backToKw pos (keywordEach kws X.env))) := by rfl) : PE X (.Call (.Attribute o m apos) (e :: es) kws pos) (tMethN n ks.length W C m sp gV ta t tk) := by
  constructor
  intro pins s σ H Q I h
  refine PySem.W.methodCall_KW (pl := pl) (thn (he.run pins s σ H _ I h) ?_) ht
  rintro u s1 ⟨x, H1, I1, rx, a, dx, fs, rfl, ea, hl, q⟩
  cases (show u = Value.ref a from rx)
  refine getmeth_ok I1 ea c hm hl ?_
  refine PySem.W.callWith_KW (first := [.ref a]) (h₀ := X.base) I.ok.mod.kin hm.kp hall (thn (ha.run pos pins s1 σ H1 _ I1 q) fun us s2 ⟨vs, H2, I2, r, q2⟩ => ?_) hpl hst
  refine thn (hkw.run pos pins s2 σ H2 _ I2 q2) fun ws s3 ⟨zs, H3, I3, rz, l1, l2, q3⟩ => ⟨I3.kIn, ?_⟩
  rw [hks]
  exact runWN (us := .ref a :: us) (vs := .ref a :: vs) F hgu hr hb (hx σ) I3 (.cons rfl r) rz l1 l2 q3
def MethKN (n l : Nat) (W : WX) (C : Addr) (m : Str) (sp : Sp) (gV : List V → List V → List V) (t tk : TA) (σ : L2.St) (Q : VK) : VK := fun x H1 => ∃ a dx fs, x = .ref a ∧ H1 a = some (.ins C dx fs) ∧ fs.lookup m = none ∧ t σ H1 fun vs H2 => tk σ H2 fun zs H3 => vs.length + 1 = n ∧ zs.length = l ∧ sp (gV (x :: vs) zs) H3 Q (WE W σ)
theorem g_methN {n l : Nat} {σ : L2.St} {H : Hp} {Q : VK} (k : ta σ H (MethKN n l W C m sp gV t tk σ Q)) : tMethN n l W C m sp gV ta t tk σ H Q := k
end
/-! ### dicts that can be read: one's own, locked ones, data -/
theorem Sat.got {F : Hp} : ∀ {Rs : List Res} {L : List Cell} (i : Nat) {R : Res}, Sat F Rs L → Rs[i]? = some R → ∃ l, R.on F l ∧ ∀ c ∈ l, c ∈ L
  | [], L, i, R, _, e => by simp at e
  | S :: Rs, L, 0, R, ⟨l1, l2, h, a, _⟩, e => by
    have e : S = R := Option.some.inj e
    subst e
    exact ⟨l1, a, fun c hc => h ▸ List.mem_append_left _ hc⟩
  | S :: Rs, L, i + 1, R, ⟨l1, l2, h, _, b⟩, e => by
    obtain ⟨l, h1, h2⟩ := Sat.got i b (by simpa using e)
    exact ⟨l, h1, fun c hc => h ▸ List.mem_append_right _ (h2 c hc)⟩
section
variable {K : PySem.W.Frag} {κ α β : Type} {ik : κ → Key} {e : α → PyData} {Rs : List Res} {H : Hp} {Q : VK} {v : V} {p : Addr} {m : List (κ × α)} {σ : L2.St}
def DVs (K : PySem.W.Frag) (Rs : List Res) (H : Hp) (ik : κ → Key) (e : α → PyData) (v : V) (m : List (κ × α)) : Prop :=
  ∃ p kvs F L, v = .ref p ∧ Rd H p (.dK kvs) ∧ Sat F Rs L ∧ MemC F L H ∧ TKv K F ik e kvs m
theorem DqKv.tkv : ∀ {kvs : List (Key × V)} {m : List (κ × α)}, DqKv K H kvs (m.map fun p => (kD (ik p.1), e p.2)) → TKv K H ik e kvs m
  | [], [], _ => .nil
  | [], q :: m, h => by cases h
  | _ :: _, [], h => by cases h
  | (k, v) :: kvs, q :: m, h => by
    generalize e1 : (((q :: m).map fun p => (kD (ik p.1), e p.2)) : List (PyData × PyData)) = ds at h
    cases h with
    | cons h r =>
      simp only [List.map_cons, List.cons.injEq, Prod.mk.injEq] at e1
      obtain ⟨⟨a, b⟩, c⟩ := e1
      subst b c
      cases kD_inj a
      exact .cons h (DqKv.tkv r)
theorem M.dvO (S : M Rs H) (j : Nat) (hj : Rs[j]? = some (adR K ik e p m)) : DVs K Rs H ik e (.ref p) m := by
  obtain ⟨F, L, s, mm⟩ := S
  obtain ⟨l, ⟨kvs, l1, l2, rfl, rfl, rfl, t⟩, hl⟩ := s.got j hj
  exact ⟨p, kvs, F, L, rfl, .inl (mm.own (p, .dK kvs) (hl _ (by simp))).1, s, mm, t⟩
theorem M.dvA (S : M Rs H) (j : Nat) (hj : Rs[j]? = some (da K v (eD ik e m))) : DVs K Rs H ik e v m := by
  obtain ⟨F, L, s, mm⟩ := S
  obtain ⟨l, ⟨rfl, h⟩, hl⟩ := s.got j hj
  cases h with
  | dct h q => exact ⟨_, _, F, L, rfl, .inr ⟨_, mm.ex _ _ h⟩, s, mm, q.tkv⟩
/-- a dict that is lent: one's own, locked, data, data that is walked -/
inductive DF where
  | own
  | lck (p : Addr) (od : Obj) (kvs : List (Key × V))
  | dat
  | fzd (p : Addr) (od : Obj) (kvs : List (Key × V))
def bdR (K : PySem.W.Frag) (ik : κ → Key) (e : α → PyData) (v : V) (m : List (κ × α)) : DF → Res
  | .own => exi fun p => prp (v = .ref p) (adR K ik e p m)
  | .lck p od kvs => prp (v = .ref p) (adL K ik e p od kvs m)
  | .dat => da K v (eD ik e m)
  | .fzd p od kvs => prp (v = .ref p) (sp2 (fz p (.frz od (.dK kvs))) (tkR K ik e kvs m))
theorem M.dvB {f : DF} (S : M Rs H) (j : Nat) (hj : Rs[j]? = some (bdR K ik e v m f)) : DVs K Rs H ik e v m := by
  cases f with
  | own =>
    obtain ⟨F, L, s, mm⟩ := S
    obtain ⟨l, ⟨p, rfl, kvs, l1, l2, rfl, rfl, rfl, t⟩, hl⟩ := s.got j hj
    exact ⟨p, kvs, F, L, rfl, .inl (mm.own (p, .dK kvs) (hl _ (by simp))).1, s, mm, t⟩
  | lck p od kvs =>
    obtain ⟨F, L, s, mm⟩ := S
    obtain ⟨l, ⟨rfl, l1, l2, rfl, rfl, rfl, t⟩, hl⟩ := s.got j hj
    exact ⟨p, kvs, F, L, rfl, .inr ⟨od, (mm.own (p, .frz od (.dK kvs)) (hl _ (by simp))).1⟩, s, mm, t⟩
  | dat => exact S.dvA j hj
  | fzd p od kvs =>
    obtain ⟨F, L, s, mm⟩ := S
    obtain ⟨l, ⟨rfl, l1, l2, rfl, ⟨rfl, h⟩, rfl, t⟩, hl⟩ := s.got j hj
    exact ⟨p, kvs, F, L, rfl, .inr ⟨od, mm.ex _ _ h⟩, s, mm, t⟩
theorem DVs.len (D : DVs K Rs H ik e v m) (k : Q (.int (m.length : Nat)) H) : uLen K [v] H Q := by
  obtain ⟨p, kvs, F, L, rfl, h, _, _, t⟩ := D
  exact .inr ⟨p, kvs, rfl, h, by rw [t.len]; exact k⟩
variable [DecidableEq κ]
theorem DVs.at (inj : ∀ a b, ik a = ik b → a = b) {k : κ} {x : α} (D : DVs K Rs H ik e v m) (hx : lk m k = some x) : ∃ p kvs u, v = .ref p ∧ Rd H p (.dK kvs) ∧ valV kvs (ik k) = some u ∧ M (da K u (e x) :: Rs) H := by
  obtain ⟨p, kvs, F, L, rfl, h, s, mm, t⟩ := D
  obtain ⟨u, h1, h2⟩ := t.some inj hx
  exact ⟨p, kvs, u, rfl, h, h1, F, L, ⟨[], L, rfl, ⟨rfl, h2⟩, s⟩, mm⟩
theorem DVs.has (inj : ∀ a b, ik a = ik b → a = b) (k : κ) (D : DVs K Rs H ik e v m) : ∃ p kvs, v = .ref p ∧ Rd H p (.dK kvs) ∧ (valV kvs (ik k)).isSome = (lk m k).isSome := by
  obtain ⟨p, kvs, F, L, rfl, h, s, mm, t⟩ := D
  exact ⟨p, kvs, rfl, h, t.isSome inj k⟩
end
section
variable {K : PySem.W.Frag} {α β : Type} {e : α → PyData} {Rs : List Res} {H : Hp} {Q : VK} {v : V} {p : Addr} {σ : L2.St}
theorem d_ixS {m : List (Str × α)} {n : Str} {x : α} (D : DVs K Rs H iS e v m) (hx : lk m n = some x) (k : ∀ u, M (da K u (e x) :: Rs) H → Q u H) : rIxK v (.str n) H Q := by
  obtain ⟨p, kvs, u, rfl, h, h1, S⟩ := D.at injS hx
  exact ⟨p, u, rfl, .inl ⟨kvs, Sum.inr n, h, rfl, h1.symm⟩, k u S⟩
theorem d_ixI {m : List (Int × α)} {n : Int} {x : α} (D : DVs K Rs H iI e v m) (hx : lk m n = some x) (k : ∀ u, M (da K u (e x) :: Rs) H → Q u H) : rIxK v (.int n) H Q := by
  obtain ⟨p, kvs, u, rfl, h, h1, S⟩ := D.at injI hx
  exact ⟨p, u, rfl, .inl ⟨kvs, Sum.inl n, h, rfl, h1.symm⟩, k u S⟩
theorem d_inS {m : List (Str × α)} {n : Str} (D : DVs K Rs H iS e v m) (k : Q (.bl (lk m n).isSome) H) : uIn K (.str n) v H Q := by
  obtain ⟨p, kvs, rfl, h, e⟩ := D.has injS n
  exact .inr (.inr (.inl ⟨p, _, rfl, .inl ⟨kvs, Sum.inr n, h, rfl, rfl⟩, by rw [show (Sum.inr n : Key) = iS n from rfl, e]; exact k⟩))
theorem d_ninS {m : List (Str × α)} {n : Str} (D : DVs K Rs H iS e v m) (k : Q (.bl (!(lk m n).isSome)) H) : uNotIn K (.str n) v H Q := by
  obtain ⟨p, kvs, rfl, h, e⟩ := D.has injS n
  exact .inr (.inr (.inl ⟨p, _, rfl, .inl ⟨kvs, Sum.inr n, h, rfl, rfl⟩, by rw [show (Sum.inr n : Key) = iS n from rfl, e]; exact k⟩))
theorem d_inI {m : List (Int × α)} {n : Int} (D : DVs K Rs H iI e v m) (k : Q (.bl (lk m n).isSome) H) : uIn K (.int n) v H Q := by
  obtain ⟨p, kvs, rfl, h, e⟩ := D.has injI n
  exact .inr (.inr (.inl ⟨p, _, rfl, .inl ⟨kvs, Sum.inl n, h, rfl, rfl⟩, by rw [show (Sum.inl n : Key) = iI n from rfl, e]; exact k⟩))
theorem d_ninI {m : List (Int × α)} {n : Int} (D : DVs K Rs H iI e v m) (k : Q (.bl (!(lk m n).isSome)) H) : uNotIn K (.int n) v H Q := by
  obtain ⟨p, kvs, rfl, h, e⟩ := D.has injI n
  exact .inr (.inr (.inl ⟨p, _, rfl, .inl ⟨kvs, Sum.inl n, h, rfl, rfl⟩, by rw [show (Sum.inl n : Key) = iI n from rfl, e]; exact k⟩))
theorem d_srtS {m : List (Str × α)} (D : DVs K Rs H iS e v m) (hz : (ks m).length < 64) (k : ∀ q H', M (acR K q ((srtS' (ks m)).map eS) :: Rs) H' → Q (.ref q) H') : rSortDS [v] H Q := by
  obtain ⟨p, kvs, F, L, rfl, h, s, mm, t⟩ := D
  refine ⟨p, kvs, ks m, rfl, h, t.keys, hz, fun ys q hp hs hn => ?_⟩
  rw [srtS_eq hp hs]
  exact k q _ (M.ownS (M.new ⟨F, L, s, mm⟩ hn))
theorem d_srtI {m : List (Int × α)} (D : DVs K Rs H iI e v m) (hz : (ks m).length < 64) (k : ∀ q H', M (acR K q ((srt (ks m)).map eI) :: Rs) H' → Q (.ref q) H') : rSortDI [v] H Q := by
  obtain ⟨p, kvs, F, L, rfl, h, s, mm, t⟩ := D
  refine ⟨p, kvs, ks m, rfl, h, t.keys, hz, fun ys q hp hs hn => ?_⟩
  rw [srt_eq hp hs]
  exact k q _ (M.ownI (M.new ⟨F, L, s, mm⟩ hn))
/-- dict(d) -/
theorem d_dict {κ : Type} {ik : κ → Key} {m : List (κ × α)} (D : DVs K Rs H ik e v m) (k : ∀ q H', M (adR K ik e q m :: Rs) H' → Q (.ref q) H') : rDictD [v] H Q := by
  obtain ⟨p, kvs, F, L, rfl, h, s, mm, t⟩ := D
  refine ⟨p, kvs, rfl, h, fun q hn => k q _ ?_⟩
  have S1 : M (tkR K ik e kvs m :: Rs) H := ⟨F, L, ⟨[], L, rfl, ⟨rfl, t⟩, s⟩, mm⟩
  exact adR_close (S1.new hn)
end
/-! ### walks over a dict's keys -/
def tLkE (t : TE) : TE := fun σ H Q => t σ H Q ∨ tLockE t σ H Q
theorem pe_lk {X : Cx} {x : Expr} {t : TE} (h : PE X x t) : PE X x (tLkE t) := ⟨fun pins s σ H Q I hw => hw.elim (fun q => h.run pins s σ H Q I q) (fun q => (pe_lock h).run pins s σ H Q I q)⟩
def tLkS (t : TS) : TS := fun D σ H => t D σ H ∨ tLock t D σ H
theorem ps_lk {X : Cx} {x : Stmt} {t : TS} (h : PS X x t) : PS X x (tLkS t) := ⟨fun pins s σ H D I hw => hw.elim (fun q => h.run pins s σ H D I q) (fun q => (ps_lock h).run pins s σ H D I q)⟩
theorem asg_lk {r : TE} {i : Nat} {D : Ends} {σ : L2.St} {H : Hp} (h : tAsg (tLkE r) (gName i) D σ H) : tLkS (tAsg r (gName i)) D σ H := h.elim .inl .inr
section
variable {K : PySem.W.Frag} {κ α β : Type} {ik : κ → Key} {e : α → PyData} {Rs : List Res} {H : Hp} {Q : VK} {v : V} {p : Addr} {m : List (κ × α)} {σ : L2.St} {od : Obj} {kvs : List (Key × V)}
theorem keys_at {sv : κ → V} (hsv : ∀ q, kV (ik q) = sv q) (hk : kvs.map (·.1) = (ks m).map ik) {i : Nat} {k : Key} {u : V} (h : kvs[i]? = some (k, u)) : ∃ hi : i < (ks m).length, kV k = sv (ks m)[i] := by
  have h1 : (kvs.map (·.1))[i]? = some k := by rw [List.getElem?_map, h]; rfl
  rw [hk, List.getElem?_map] at h1
  rcases Nat.lt_or_ge i (ks m).length with hi | hi
  · rw [List.getElem?_eq_getElem hi] at h1
    have h1 : ik (ks m)[i] = k := Option.some.inj h1
    exact ⟨hi, by rw [← h1]; exact hsv _⟩
  · rw [List.getElem?_eq_none hi] at h1
    cases h1
theorem lc_fz {te : TE} {tt : TT} {g : TG} {ws : List Nat} {F : κ → (Option β → Prop) → Prop} {e' : β → PyData} {KK : List β → Prop} {R : Res} {sv : κ → V} (hsv : ∀ q, kV (ik q) = sv q) (hk : kvs.map (·.1) = (ks m).map ik) (hf : (ks m).length ≤ 100000 ∧ lcD F (ks m) [] KK)
    (S : M (R :: Rs) H) (hfr : ∀ Rs H, M (R :: Rs) H → H p = some (.frz od (.dK kvs)))
    (hs : ∀ x (acc : List β) E H (kk : Option β → Prop) (N : Hp → Prop), (acc.map e').length < 100000 → M (acR K E (acc.map e') :: R :: Rs) H → F x kk →
      (∀ y H, kk (some y) → M (acR K E (acc.map e' ++ [e' y]) :: R :: Rs) H → N H) → (∀ H, kk none → M (acR K E (acc.map e') :: R :: Rs) H → N H) → g (sv x) (wipe σ ws) H fun σ2 H2 => wipe σ2 ws = wipe σ ws ∧ tt σ2 H2 fun b H3 =>
      if b = true then te σ2 H3 (LcK N E) else N H3)
    (hd : ∀ E (acc : List β) H, KK acc → M (acR K E (acc.map e') :: R :: Rs) H → Q (.ref E) H) : LcW (Itk p od kvs) g tt te ws σ Q H := by
  obtain ⟨hz, hf⟩ := hf
  have hl : kvs.length = (ks m).length := by
    have := congrArg List.length hk
    simpa using this
  refine lc_X walk_keys (fun E n H => ∃ acc, lcD F ((ks m).drop n) acc KK ∧ acc.length ≤ n ∧ M (acR K E (acc.map e') :: R :: Rs) H) (fun E hE => ⟨[], by simpa using hf, Nat.le_refl _, acR_nil (S.new hE)⟩) (fun E n H _ ⟨acc, _, _, S⟩ => hfr _ _ (S.at 1 rfl)) ?_ ?_
  · rintro E n v H H' hn ⟨acc, hf, ha, S⟩ ⟨rfl, k, u, hk', rfl⟩
    obtain ⟨hn2, ek⟩ := keys_at hsv hk hk'
    rw [List.drop_eq_getElem_cons hn2] at hf
    rw [ek]
    refine hs _ acc E H' _ _ (by rw [List.length_map]; omega) S hf (fun y H hk S => ⟨acc ++ [y], hk, by rw [List.length_append]; simpa using ha, by rw [List.map_append]; exact S⟩) (fun H hk S => ⟨acc, ?_, by omega, S⟩)
    simpa using hk
  · rintro E H ⟨acc, hf, ha, S⟩
    rw [hl, List.drop_length] at hf
    exact hd E acc H hf S
theorem M.openDk (S : M (da K v (eD ik e m) :: Rs) H) : ∃ p od kvs, v = .ref p ∧ kvs.map (·.1) = (ks m).map ik ∧ M (fz p (.frz od (.dK kvs)) :: tkR K ik e kvs m :: Rs) H := by
  obtain ⟨F, L, ⟨l1, l2, rfl, ⟨rfl, h⟩, b⟩, mm⟩ := S
  cases h with
  | dct h q => exact ⟨_, _, _, rfl, q.tkv.keys, F, l2, ⟨[], l2, rfl, ⟨rfl, h⟩, [], l2, rfl, ⟨rfl, q.tkv⟩, b⟩, mm⟩
theorem M.closeDk (S : M (fz p (.frz od (.dK kvs)) :: tkR K ik e kvs m :: Rs) H) : M (da K (.ref p) (eD ik e m) :: Rs) H := by
  obtain ⟨F, L, ⟨l1, l2, rfl, ⟨rfl, h⟩, l3, l4, rfl, ⟨rfl, t⟩, b⟩, mm⟩ := S
  exact ⟨F, l4, ⟨[], l4, rfl, ⟨rfl, .dct h t.kv⟩, b⟩, mm⟩
theorem lck_frz (S : M (bdR K ik e v m (.lck p od kvs) :: Rs) H) : H p = some (.frz od (.dK kvs)) := by
  obtain ⟨F, L, ⟨l1, l2, rfl, ⟨rfl, l3, l4, rfl, rfl, rfl, t⟩, b⟩, mm⟩ := S
  exact (mm.own (p, .frz od (.dK kvs)) (by simp)).1
theorem fzd_frz (S : M (bdR K ik e v m (.fzd p od kvs) :: Rs) H) : H p = some (.frz od (.dK kvs)) := by
  obtain ⟨F, L, ⟨l1, l2, rfl, ⟨rfl, l3, l4, rfl, ⟨rfl, h⟩, rfl, t⟩, b⟩, mm⟩ := S
  exact mm.ex _ _ h
theorem bd_open (S : M (adR K ik e p m :: Rs) H) : M (bdR K ik e (.ref p) m .own :: Rs) H := M.ex' (T := fun q => prp (V.ref p = .ref q) (adR K ik e q m)) p (M.pr' rfl S)
theorem bd_close (S : M (bdR K ik e (.ref p) m .own :: Rs) H) : M (adR K ik e p m :: Rs) H := by
  obtain ⟨q, S⟩ := M.ex (show M ((exi fun q => prp (V.ref p = .ref q) (adR K ik e q m)) :: Rs) H from S)
  obtain ⟨h, S⟩ := S.pr
  cases h
  exact S
theorem lc_kys {te td : TE} {tt : TT} {g : TG} {ws : List Nat} {F : κ → (Option β → Prop) → Prop} {e' : β → PyData} {KK : List β → Prop} {f : DF} {sv : κ → V} (hsv : ∀ q, kV (ik q) = sv q) (hf : (ks m).length ≤ 100000 ∧ lcD F (ks m) [] KK) (S : M Rs H) (j : Nat) (hj : Rs[j]? = some (bdR K ik e v m f))
    (htd : ∀ f' H' (Q' : VK), M (bdR K ik e v m f' :: Rs.eraseIdx j) H' → Q' v H' → td σ H' Q')
    (hs : ∀ f' x (acc : List β) E H (kk : Option β → Prop) (N : Hp → Prop), (acc.map e').length < 100000 → M (acR K E (acc.map e') :: bdR K ik e v m f' :: Rs.eraseIdx j) H → F x kk →
      (∀ y H, kk (some y) → M (acR K E (acc.map e' ++ [e' y]) :: bdR K ik e v m f' :: Rs.eraseIdx j) H → N H) → (∀ H, kk none → M (acR K E (acc.map e') :: bdR K ik e v m f' :: Rs.eraseIdx j) H → N H) → g (sv x) (wipe σ ws) H fun σ2 H2 => wipe σ2 ws = wipe σ ws ∧ tt σ2 H2 fun b H3 =>
      if b = true then te σ2 H3 (LcK N E) else N H3)
    (hd : ∀ E (acc : List β) H, KK acc → M (acR K E (acc.map e') :: bdR K ik e v m f :: Rs.eraseIdx j) H → Q (.ref E) H) : tLkE (tLc (iKeys td) g tt te ws) σ H Q := by
  have S1 := S.at j hj
  cases f with
  | own =>
    obtain ⟨p, S1⟩ := M.ex (show M ((exi fun q => prp (v = .ref q) (adR K ik e q m)) :: Rs.eraseIdx j) H from S1)
    obtain ⟨rfl, S1'⟩ := S1.pr
    obtain ⟨kvs, S1⟩ := adR_open S1' 0 rfl
    refine .inr ⟨p, .dK kvs, S1.got 0 rfl, trivial, fun od => ?_⟩
    have S2 : M (pt p (.frz od (.dK kvs)) :: tkR K ik e kvs m :: Rs.eraseIdx j) (upd H p (.frz od (.dK kvs))) := S1.putAt 0 rfl
    have S3 : M (bdR K ik e (.ref p) m (.lck p od kvs) :: Rs.eraseIdx j) (upd H p (.frz od (.dK kvs))) := M.pr' rfl S2.sp'
    refine htd _ _ _ S3 ⟨p, od, rfl, .inl ⟨kvs, S2.got 0 rfl, ?_⟩⟩
    refine lc_fz (Q := fun v H' => H' p = some (.frz od (.dK kvs)) ∧ Q v (upd H' p (.dK kvs))) hsv (S2.gotT 1 rfl).keys hf S3 (fun _ _ S => lck_frz S) (fun x acc E H kk N h1 h2 h3 h4 h5 => hs _ x acc E H kk N h1 h2 h3 h4 h5) ?_
    rintro E acc H2 hK S4
    have S5 := S4.at 1 rfl
    refine ⟨lck_frz S5, hd E acc _ hK ?_⟩
    obtain ⟨_, S5⟩ := M.pr (show M (prp (V.ref p = .ref p) (adL K ik e p od kvs m) :: acR K E (acc.map e') :: Rs.eraseIdx j) H2 from S5)
    have S6 : M (pt p (.dK kvs) :: tkR K ik e kvs m :: acR K E (acc.map e') :: Rs.eraseIdx j) (upd H2 p (.dK kvs)) := S5.sp.putAt 0 rfl
    exact M.sub (.cons 1 rfl (.refl _)) (bd_open (adR_close S6))
  | lck p od kvs =>
    have e1 : v = .ref p := (M.pr (show M (prp (v = .ref p) (adL K ik e p od kvs m) :: Rs.eraseIdx j) H from S1)).1
    have t : TKv K H ik e kvs m := ((M.pr (show M (prp (v = .ref p) (adL K ik e p od kvs m) :: Rs.eraseIdx j) H from S1)).2).sp.gotT 1 rfl
    refine .inl (htd _ _ _ S1 ⟨p, od, e1, .inl ⟨kvs, lck_frz S1, ?_⟩⟩)
    exact lc_fz hsv t.keys hf S1 (fun _ _ S => lck_frz S) (fun x acc E H kk N h1 h2 h3 h4 h5 => hs _ x acc E H kk N h1 h2 h3 h4 h5) (fun E acc H hK S => hd E acc H hK S)
  | dat =>
    obtain ⟨p, od, kvs, rfl, hk, S2⟩ := M.openDk (show M (da K v (eD ik e m) :: Rs.eraseIdx j) H from S1)
    have S3 : M (bdR K ik e (.ref p) m (.fzd p od kvs) :: Rs.eraseIdx j) H := M.pr' rfl S2.sp'
    refine .inl (htd _ _ _ S3 ⟨p, od, rfl, .inl ⟨kvs, fzd_frz S3, ?_⟩⟩)
    refine lc_fz hsv hk hf S3 (fun _ _ S => fzd_frz S) (fun x acc E H kk N h1 h2 h3 h4 h5 => hs _ x acc E H kk N h1 h2 h3 h4 h5) ?_
    rintro E acc H2 hK S4
    have S5 := S4.at 1 rfl
    obtain ⟨_, S5⟩ := M.pr (show M (prp (V.ref p = .ref p) (sp2 (fz p (.frz od (.dK kvs))) (tkR K ik e kvs m)) :: acR K E (acc.map e') :: Rs.eraseIdx j) H2 from S5)
    exact hd E acc _ hK (M.sub (.cons 1 rfl (.refl _)) (M.closeDk S5.sp))
  | fzd p od kvs =>
    have e1 : v = .ref p := (M.pr (show M (prp (v = .ref p) (sp2 (fz p (.frz od (.dK kvs))) (tkR K ik e kvs m)) :: Rs.eraseIdx j) H from S1)).1
    have t : TKv K H ik e kvs m := ((M.pr (show M (prp (v = .ref p) (sp2 (fz p (.frz od (.dK kvs))) (tkR K ik e kvs m)) :: Rs.eraseIdx j) H from S1)).2).sp.gotT 1 rfl
    refine .inl (htd _ _ _ S1 ⟨p, od, e1, .inl ⟨kvs, fzd_frz S1, ?_⟩⟩)
    exact lc_fz hsv t.keys hf S1 (fun _ _ S => fzd_frz S) (fun x acc E H kk N h1 h2 h3 h4 h5 => hs _ x acc E H kk N h1 h2 h3 h4 h5) (fun E acc H hK S => hd E acc H hK S)
/-- for k in d, d data -/
theorem for_fz {F : κ → β → (β → Prop) → Prop} {s0 : β} {KK : β → Prop} {g : TG} {tb : TS} {D : Ends} {sv : κ → V} (hsv : ∀ q, kV (ik q) = sv q) (hk : kvs.map (·.1) = (ks m).map ik) (hf : forD F (ks m) s0 KK) (Inv : β → L2.St → Hp → Prop) (h0 : Inv s0 σ H)
    (hrd : ∀ s σ H, Inv s σ H → H p = some (.frz od (.dK kvs)))
    (hs : ∀ x s σ H (kk : β → Prop), Inv s σ H → F x s kk → g (sv x) σ H fun σ2 H2 => tb ⟨fun σ H => ∃ s', kk s' ∧ Inv s' σ H, D.rt, D.nx, fun σ H => ∃ s', kk s' ∧ Inv s' σ H⟩ σ2 H2)
    (hd : ∀ s σ H, KK s → Inv s σ H → D.nx σ H) : ForW (Itk p od kvs) g tb D σ H := by
  have hl : kvs.length = (ks m).length := by
    have := congrArg List.length hk
    simpa using this
  refine for_W walk_keys (fun i σ H => ∃ s, forD F ((ks m).drop i) s KK ∧ Inv s σ H) ⟨s0, by simpa using hf, h0⟩ (fun i σ H _ ⟨s, _, h⟩ => hrd s σ H h) ?_ ?_
  · rintro i v σ H H' hi ⟨s, hf, h⟩ ⟨rfl, k, u, hk', rfl⟩
    obtain ⟨hn2, ek⟩ := keys_at hsv hk hk'
    rw [List.drop_eq_getElem_cons hn2] at hf
    rw [ek]
    exact hs _ s σ H' _ h hf
  · rintro σ H ⟨s, hf, h⟩
    rw [hl, List.drop_length] at hf
    exact hd s σ H hf h
end
end RC

namespace RC
open PySem PySem.Spec PyProof.Rows L2
section
variable {K : PySem.W.Frag} {α β : Type} {e : α → PyData} {Rs : List Res} {H : Hp} {Q : VK} {v w : V} {p : Addr} {σ : L2.St}
/-! ### a number or None -/
theorem isNo_O (x : Option Int) : isNo (eO eI x) = x.isNone := by cases x <;> rfl
theorem v_isO {x : Option Int} (h : Dq K H v (eO eI x)) (k : Q (.bl x.isNone) H) : rIsN v .non H Q := v_isNa h (by rw [isNo_O]; exact k)
theorem v_notO {x : Option Int} (h : Dq K H v (eO eI x)) (k : Q (.bl (!x.isNone)) H) : rNotN v .non H Q := v_notNa h (by rw [isNo_O]; exact k)
theorem eqv_O (x y : Option Int) : PyData.eqv (eO eI x) (eO eI y) = decide (x = y) := by
  cases x with
  | none => cases y <;> simp [eO, PyData.eqv]
  | some a =>
    cases y with
    | none => simp [eO, PyData.eqv]
    | some b =>
      by_cases z : a = b <;> simp [eO, PyData.eqv, z]
theorem shaped_O (x : Option Int) : EqOk (eO eI x) := by cases x <;> rfl
theorem v_eqO {x y : Option Int} (h1 : Dq K H v (eO eI x)) (h2 : Dq K H w (eO eI y)) (k : Q (.bl (decide (x = y))) H) : uEq K v w H Q := v_eqq h1 h2 (shaped_O x) (shaped_O y) (by rw [eqv_O]; exact k)
theorem v_neO {x y : Option Int} (h1 : Dq K H v (eO eI x)) (h2 : Dq K H w (eO eI y)) (k : Q (.bl (!decide (x = y))) H) : uNe K v w H Q := v_neq h1 h2 (shaped_O x) (shaped_O y) (by rw [eqv_O]; exact k)
/-! ### lists of numbers, equal or not -/
theorem eqvA_ints : ∀ xs ys : List Int, PyData.eqvAll (xs.map eI) (ys.map eI) = decide (xs = ys)
  | [], [] => rfl
  | [], y :: ys => by simp [PyData.eqvAll]
  | x :: xs, [] => by simp [PyData.eqvAll]
  | x :: xs, y :: ys => by
    have ih := eqvA_ints xs ys
    simp only [List.map_cons, PyData.eqvAll, ih]
    by_cases z : x = y
    · subst z
      simp [PyData.eqv]
    · simp [PyData.eqv, z]
theorem eqv_LI (xs ys : List Int) : PyData.eqv (eL eI xs) (eL eI ys) = decide (xs = ys) := eqvA_ints xs ys
theorem canL_ints : ∀ xs : List Int, PyData.canLayAll0 (xs.map eI) = true
  | [] => rfl
  | x :: xs => by
    simp only [List.map_cons, PyData.canLayAll0, canL_ints xs, Bool.and_true]
    rfl
theorem depA_ints : ∀ xs : List Int, PyData.depthAll (xs.map eI) = 0
  | [] => rfl
  | x :: xs => by
    simp only [List.map_cons, PyData.depthAll, depA_ints xs]
    rfl
theorem shaped_LI (xs : List Int) : EqOk (eL eI xs) := by
  show SeqAt.shaped (.list (xs.map eI)) = true
  unfold SeqAt.shaped
  rw [Bool.and_eq_true]
  refine ⟨?_, decide_eq_true ?_⟩
  · simp only [PyData.canLay0]
    exact canL_ints xs
  · simp only [PyData.depth, depA_ints]
    omega
theorem v_eqLI {xs ys : List Int} (h1 : Dq K H v (eL eI xs)) (h2 : Dq K H w (eL eI ys)) (k : Q (.bl (decide (xs = ys))) H) : uEq K v w H Q := v_eqq h1 h2 (shaped_LI xs) (shaped_LI ys) (by rw [eqv_LI]; exact k)
theorem v_neLI {xs ys : List Int} (h1 : Dq K H v (eL eI xs)) (h2 : Dq K H w (eL eI ys)) (k : Q (.bl (!decide (xs = ys))) H) : uNe K v w H Q := v_neq h1 h2 (shaped_LI xs) (shaped_LI ys) (by rw [eqv_LI]; exact k)
/-- data with dicts that are equal -/
theorem v_eqW {d : PyData} (h1 : Dn K H v d) (h2 : Dn K H w d) (ok : dOk d ∧ d.depth ≤ 60) (k : Q (.bl true) H) : uEqQ K v w H Q := .inr ⟨d, h1, h2, ok.1, ok.2, k⟩
theorem v_neW {d : PyData} (h1 : Dn K H v d) (h2 : Dn K H w d) (ok : dOk d ∧ d.depth ≤ 60) (k : Q (.bl false) H) : uNeQ K v w H Q := .inr ⟨d, h1, h2, ok.1, ok.2, k⟩
theorem v_eqQ0 (k : uEq K v w H Q) : uEqQ K v w H Q := .inl k
theorem v_neQ0 (k : uNe K v w H Q) : uNeQ K v w H Q := .inl k
/-! ### max -/
def mxI : List Int → Option Int
  | [] => none
  | x :: xs => some (xs.foldl max x)
theorem foldl_max : ∀ (xs : List Int) (a : Int), a ≤ xs.foldl max a ∧ (∀ y ∈ xs, y ≤ xs.foldl max a) ∧ (xs.foldl max a = a ∨ xs.foldl max a ∈ xs)
  | [], a => ⟨by simp, by simp, by simp⟩
  | x :: xs, a => by
    obtain ⟨h1, h2, h3⟩ := foldl_max xs (max a x)
    simp only [List.foldl_cons, List.mem_cons, forall_eq_or_imp]
    refine ⟨by omega, ⟨by omega, h2⟩, ?_⟩
    rcases h3 with h3 | h3
    · rw [h3]
      rcases Int.le_total a x with z | z
      · exact .inr (.inl (by omega))
      · exact .inl (by omega)
    · exact .inr (.inr h3)
theorem mxI_ok {xs : List Int} {m : Int} (h : mxI xs = some m) : m ∈ xs ∧ ∀ y ∈ xs, y ≤ m := by
  cases xs with
  | nil => cases h
  | cons x xs =>
    obtain ⟨h1, h2, h3⟩ := foldl_max xs x
    have h : xs.foldl max x = m := Option.some.inj h
    subst h
    refine ⟨?_, ?_⟩
    · rcases h3 with h3 | h3
      · rw [h3]
        exact List.mem_cons_self
      · exact List.mem_cons_of_mem _ h3
    · intro y hy
      rcases List.mem_cons.mp hy with rfl | hy
      · exact h1
      · exact h2 y hy
theorem mxI_eq {xs : List Int} {m : Int} (h1 : m ∈ xs) (h2 : ∀ y ∈ xs, y ≤ m) : mxI xs = some m := by
  cases e : mxI xs with
  | none =>
    cases xs with
    | nil => cases h1
    | cons x xs => cases e
  | some k =>
    obtain ⟨a, b⟩ := mxI_ok e
    have := b m h1
    have := h2 k a
    congr 1
    omega
theorem v_max {xs : List Int} {m : Int} (h : Dq K H v (eL eI xs)) (e : mxI xs = some m) (k : Q (.int m) H) : rMax K [v] H Q := by
  obtain ⟨a, rfl, hs⟩ := flI.lst h
  have hm := mxI_ok e
  refine ⟨a, xs, rfl, hs, List.length_pos_of_mem hm.1, fun z hz hle => ?_⟩
  have := hm.2 z hz
  have := hle m hm.1
  have : z = m := by omega
  subst this
  exact k
/-! ### how many are true -/
theorem cnt_bl (b : Bool) : ∀ bs : List Bool, (bs.map V.bl).countP (fun z => eqV z (.bl b)) = bs.count b
  | [] => rfl
  | x :: bs => by
    simp only [List.map_cons, List.countP_cons, List.count_cons, cnt_bl b bs]
    cases x <;> cases b <;> rfl
theorem flat_bls : ∀ bs : List Bool, (bs.map V.bl).all flatV = true
  | [] => rfl
  | x :: bs => by
    rw [List.map_cons, List.all_cons, flat_bls bs]
    rfl
theorem v_cntB {bs : List Bool} {b : Bool} (h : Dq K H v (eL eB bs)) (k : Q (.int (bs.count b : Nat)) H) : rCntV K v [.bl b] H Q := by
  obtain ⟨a, rfl, hs⟩ := flB.lst h
  exact ⟨a, bs.map V.bl, .bl b, rfl, rfl, hs, rfl, flat_bls bs, by rw [cnt_bl]; exact k⟩
/-! ### insert -/
def rInsert : V → List V → Hp → VK → Prop := fun x vs H Q => ∃ (l : Addr) (xs : List V) (i : Int) (y : V), x = .ref l ∧ vs = [.int i, y] ∧ H l = some (.lst xs) ∧ xs.length < sizeLine ∧ 0 ≤ i ∧ i < 2 ^ 63 ∧ Q .non (upd H l (.lst (xs.take i.toNat ++ [y] ++ xs.drop i.toNat)))
theorem mt_insertR {X : Cx} : MtR X "list.insert" rInsert := mt_insert
def insI (xs : List α) (i : Int) (x : α) : List α := xs.take i.toNat ++ [x] ++ xs.drop i.toNat
theorem v_ins {xs : List α} {y : V} {x : α} {i : Int} (S : M Rs H) (j : Nat) (hj : Rs[j]? = some (acR K p (xs.map e))) (h : EnF Rs (fun F => Dq K F y (e x))) (hz : xs.length < 100000) (hi : 0 ≤ i ∧ i < 2 ^ 63) (k : ∀ H', M (acR K p ((insI xs i x).map e) :: Rs.eraseIdx j) H' → Q .non H') :
    rInsert (.ref p) [.int i, y] H Q := by
  have S0 : M (da K y (e x) :: Rs) H := S.addA h
  have S1 : M (acR K p (xs.map e) :: da K y (e x) :: Rs.eraseIdx j) H := by
    have := S0.at (j + 1) (by simpa using hj)
    simpa using this
  obtain ⟨vs, S2⟩ := S1.ex
  have S3 := S2.sp
  have hl : vs.length = xs.length := by
    have := (S3.gotAA 1 rfl).len
    simpa using this
  refine ⟨p, vs, i, y, rfl, rfl, S3.got 0 rfl, Nat.lt_of_lt_of_le (by omega) (show 100000 ≤ sizeLine by decide), hi.1, hi.2, k _ ?_⟩
  have S4 : M (pt p (.lst (vs.take i.toNat ++ [y] ++ vs.drop i.toNat)) :: daA K vs (xs.map e) :: da K y (e x) :: Rs.eraseIdx j) (upd H p (.lst (vs.take i.toNat ++ [y] ++ vs.drop i.toNat))) := S3.putAt 0 rfl
  obtain ⟨F, L, ⟨l1, l2, rfl, a1, l3, l4, rfl, ⟨rfl, q⟩, l5, l6, rfl, ⟨rfl, d⟩, b⟩, mm⟩ := S4
  refine ⟨F, _, ⟨l1, l6, rfl, ⟨_, l1, [], by simp, a1, rfl, ?_⟩, b⟩, mm⟩
  unfold insI
  rw [List.map_append, List.map_append, List.map_take, List.map_drop]
  exact ((q.takeA _).app (.cons d .nil)).app (q.dropA _)
theorem M.tyA {xs : List α} {φ : Prop} (S : M Rs H) (j : Nat) (hj : Rs[j]? = some (da K v (eL e xs))) (k : φ) : tyV K "list" v H ∧ φ := by
  have h := S.gotA j hj
  cases h with
  | lst h q => exact ⟨.inl ⟨rfl, _, h⟩, k⟩
def KeyK (R : It → Hp → Prop) : VK := fun x H1 => ∃ d o, x = .ref d ∧ ((∃ kvs, H1 d = some (.frz o (.dK kvs)) ∧ R (Itk d o kvs) H1) ∨ ∃ kvs, H1 d = some (.frz o (.dT kvs)) ∧ R (Itkt d o kvs) H1)
theorem g_iKeys {td : TE} {R : It → Hp → Prop} (k : td σ H (KeyK R)) : iKeys td σ H R := k
theorem v_itK {R : It → Hp → Prop} {od : Obj} {kvs : List (Key × V)} (ev : v = .ref p) (h : H p = some (.frz od (.dK kvs))) (k : R (Itk p od kvs) H) : KeyK R v H := ⟨p, od, ev, .inl ⟨kvs, h, k⟩⟩
/-! ### a comprehension over a text's signs; in -/
theorem lc_str {te : TE} {tt : TT} {g : TG} {ws : List Nat} {F : Str → (Option β → Prop) → Prop} {e' : β → PyData} {z : Str} {KK : List β → Prop} (hf : (strL z).length ≤ 100000 ∧ lcD F (strL z) [] KK) (S : M Rs H)
    (hs : ∀ x (acc : List β) E H (kk : Option β → Prop) (N : Hp → Prop), (acc.map e').length < 100000 → M (acR K E (acc.map e') :: Rs) H → F x kk →
      (∀ y H, kk (some y) → M (acR K E (acc.map e' ++ [e' y]) :: Rs) H → N H) → (∀ H, kk none → M (acR K E (acc.map e') :: Rs) H → N H) → g (.str x) (wipe σ ws) H fun σ2 H2 => wipe σ2 ws = wipe σ ws ∧ tt σ2 H2 fun b H3 =>
      if b = true then te σ2 H3 (LcK N E) else N H3)
    (hd : ∀ E (acc : List β) H, KK acc → M (acR K E (acc.map e') :: Rs) H → Q (.ref E) H) : LcW (Its z) g tt te ws σ Q H := by
  obtain ⟨hz, hf⟩ := hf
  have hl : (strL z).length = z.cps.size := by simp [strL]
  refine lc_X walk_str (fun E i H => ∃ acc, lcD F ((strL z).drop i) acc KK ∧ acc.length ≤ i ∧ M (acR K E (acc.map e') :: Rs) H) (fun E hE => ⟨[], by simpa using hf, Nat.le_refl _, acR_nil (S.new hE)⟩) (fun E i H _ _ => trivial) ?_ ?_
  · rintro E i v H H' hi ⟨acc, hf, ha, S⟩ ⟨rfl, c, hc, rfl⟩
    have hi2 : i < (strL z).length := by rw [hl]; exact hi
    rw [List.drop_eq_getElem_cons hi2] at hf
    have e : (strL z)[i] = ⟨#[c]⟩ := by
      have : (strL z)[i]? = some ⟨#[c]⟩ := by
        unfold strL
        rw [List.getElem?_map, Array.getElem?_toList, hc]
        rfl
      exact Option.some.inj ((List.getElem?_eq_getElem hi2).symm.trans this)
    rw [e] at hf
    refine hs _ acc E H' _ _ (by rw [List.length_map]; omega) S hf (fun y H hk S => ⟨acc ++ [y], hk, by rw [List.length_append]; simpa using ha, by rw [List.map_append]; exact S⟩) (fun H hk S => ⟨acc, ?_, by omega, S⟩)
    simpa using hk
  · rintro E H ⟨acc, hf, ha, S⟩
    rw [← hl, List.drop_length] at hf
    exact hd E acc H hf S
theorem inV_int {n : Int} : ∀ xs : List Int, inV (.int n) (xs.map V.int) = decide (n ∈ xs)
  | [] => rfl
  | x :: xs => by
    have h := inV_int (n := n) xs
    unfold inV at h ⊢
    rw [List.map_cons, List.any_cons, h]
    show (decide (x = n) || decide (n ∈ xs)) = decide (n ∈ x :: xs)
    by_cases z : x = n
    · simp [z]
    · have : ¬ n = x := fun q => z q.symm
      simp [z, this]
theorem flat_ints : ∀ xs : List Int, (xs.map V.int).all flatV = true
  | [] => rfl
  | x :: xs => by rw [List.map_cons, List.all_cons, flat_ints xs]; rfl
theorem v_inLI {n : Int} {xs : List Int} (h : Dq K H v (eL eI xs)) (k : Q (.bl (decide (n ∈ xs))) H) : uIn K (.int n) v H Q := by
  obtain ⟨a, rfl, hs⟩ := flI.lst h
  exact .inl ⟨a, _, rfl, .inl hs, rfl, flat_ints xs, by rw [inV_int]; exact k⟩
theorem v_ninLI {n : Int} {xs : List Int} (h : Dq K H v (eL eI xs)) (k : Q (.bl (!decide (n ∈ xs))) H) : uNotIn K (.int n) v H Q := by
  obtain ⟨a, rfl, hs⟩ := flI.lst h
  exact .inl ⟨a, _, rfl, .inl hs, rfl, flat_ints xs, by rw [inV_int]; exact k⟩
theorem any_mem {s : Str} (xs : List Str) : (xs.any fun y => decide (y = s)) = decide (s ∈ xs) := by
  rw [Bool.eq_iff_iff]
  simp [List.any_eq_true]
theorem v_inLS {s : Str} {xs : List Str} (h : Dq K H v (eL eS xs)) (k : Q (.bl (decide (s ∈ xs))) H) : uIn K (.str s) v H Q := by
  obtain ⟨a, rfl, hs⟩ := flS.lst h
  exact v_inT (.inl hs) (by rw [any_mem]; exact k)
theorem v_ninLS {s : Str} {xs : List Str} (h : Dq K H v (eL eS xs)) (k : Q (.bl (!decide (s ∈ xs))) H) : uNotIn K (.str s) v H Q := by
  obtain ⟨a, rfl, hs⟩ := flS.lst h
  exact v_ninT (.inl hs) (by rw [any_mem]; exact k)
theorem v_cntBc {bs : List Bool} {b : Bool} {n : Int} (h : Dq K H v (eL eB bs)) (e : ((bs.count b : Nat) : Int) = n) (k : Q (.int n) H) : rCntV K v [.bl b] H Q := v_cntB h (by rw [e]; exact k)
theorem v_ifcT {A B : Prop} {b : Bool} (h : b = true) (k : A) : if b = true then A else B := by rw [if_pos h]; exact k
theorem v_ifcF {A B : Prop} {b : Bool} (h : b = false) (k : B) : if b = true then A else B := by rw [h]; exact k
theorem v_powc {a b n : Int} (h : (0 : Int) ≤ b ∧ b ≤ 1000000 ∧ a.natAbs < 2 ^ 64) (e : a ^ b.toNat = n) (k : Q (.int n) H) : uPow (.int a) (.int b) H Q := v_pow h (by rw [e]; exact k)
theorem M.drp (S : M Rs H) (i : Nat) : M (Rs.eraseIdx i) H := by
  cases h : Rs[i]? with
  | none =>
    rw [List.eraseIdx_of_length_le (by simpa using h)]
    exact S
  | some R => exact (S.at i h).tl
end
end RC

namespace RC
open PySem PySem.Spec PyProof.Rows L2
/-! ### the plain law -/
theorem forD_inv {α β : Type} {f : α → β → (β → Prop) → Prop} (Inv : Nat → β → Prop) : ∀ {xs : List α} {s : β} {k : β → Prop} {n : Nat}, Inv n s →
    (∀ (i : Nat) x s (kk : β → Prop), xs[i]? = some x → Inv (n + i) s → (∀ s', Inv (n + i + 1) s' → kk s') → f x s kk) → (∀ s, Inv (n + xs.length) s → k s) → forD f xs s k
  | [], s, k, n, h0, _, hd => hd s h0
  | x :: xs, s, k, n, h0, hs, hd => by
    refine hs 0 x s _ rfl h0 fun s' h' => ?_
    refine forD_inv Inv (n := n + 1) h' (fun i y s kk hy hi hk => ?_) (fun s hi => hd s ?_)
    · refine hs (i + 1) y s kk (by simpa using hy) ?_ fun s' hs' => hk s' ?_
      · rw [show n + (i + 1) = n + 1 + i by omega]
        exact hi
      · rw [show n + 1 + i + 1 = n + (i + 1) + 1 by omega]
        exact hs'
    · rw [List.length_cons, show n + (xs.length + 1) = n + 1 + xs.length by omega]
      exact hi
theorem lcD_map {α β : Type} {f : α → (Option β → Prop) → Prop} {k : List β → Prop} (g : α → β) : ∀ {xs : List α} {acc : List β}, (∀ x ∈ xs, ∀ kk : Option β → Prop, kk (some (g x)) → f x kk) → k (acc ++ xs.map g) → lcD f xs acc k
  | [], acc, _, h => by simpa [lcD] using h
  | x :: xs, acc, hs, h => by
    refine hs x List.mem_cons_self _ ?_
    refine lcD_map g (fun y hy => hs y (List.mem_cons_of_mem _ hy)) ?_
    simpa using h
/-- some of what may be: each item good -/
theorem lcD_all {α β : Type} {f : α → (Option β → Prop) → Prop} {k : List β → Prop} (G : β → Prop) : ∀ {xs : List α} {acc : List β}, (∀ x ∈ xs, ∀ kk : Option β → Prop, (∀ y, G y → kk (some y)) → f x kk) → (∀ y ∈ acc, G y) →
    (∀ ys, (∀ y ∈ ys, G y) → ys.length = acc.length + xs.length → k ys) → lcD f xs acc k
  | [], acc, _, ha, h => h acc ha rfl
  | x :: xs, acc, hs, ha, h => by
    refine hs x List.mem_cons_self _ fun y hy => ?_
    refine lcD_all G (fun z hz => hs z (List.mem_cons_of_mem _ hz)) (fun z hz => ?_) fun ys hys hl => h ys hys ?_
    · rcases List.mem_append.mp hz with hz | hz
      · exact ha z hz
      · have : z = y := by simpa using hz
        rw [this]
        exact hy
    · rw [hl]
      simp
      omega
def GN (s : Str) : Prop := 1 ≤ s.length ∧ s.length ≤ 8 ∧ ∀ c ∈ s.cps.toList, 97 ≤ c ∧ c ≤ 122
def GC (ns : List Int) : Prop := ns.length ≤ 48 ∧ ∀ n ∈ ns, 0 ≤ n ∧ n ≤ 999
theorem letters_mem {c : Nat} (h : 97 ≤ c ∧ c ≤ 122) : c ∈ ("abcdefghijklmnopqrstuvwxyz" : Str).cps.toList := by
  have key : ∀ i : Fin 26, (97 + i.val) ∈ ("abcdefghijklmnopqrstuvwxyz" : Str).cps.toList := by decide +kernel
  have := key ⟨c - 97, by omega⟩
  rwa [show 97 + (c - 97) = c by omega] at this
theorem tk {n : Int} {k : Int → Prop} (h : 0 < n ∧ n < 2 ^ 62) (g : ∀ v, 0 ≤ v → v < n → k v) : takeD n k := ⟨h, g⟩
theorem atI_ex {α : Type} {xs : List α} {i : Int} (h0 : 0 ≤ i) (h1 : i < xs.length) : ∃ x ∈ xs, atI xs i = some x := by
  have hl : i.toNat < xs.length := by omega
  exact ⟨xs[i.toNat], List.getElem_mem hl, atI_int h0 (List.getElem?_eq_getElem hl)⟩
theorem rng_mem {n x : Int} (h : x ∈ rng n) : 0 ≤ x ∧ x < n := by
  unfold rng at h
  obtain ⟨i, hi, rfl⟩ := List.mem_map.mp h
  have := List.mem_range.mp hi
  omega
theorem cmul {a b : Int} (h : 0 ≤ b ∧ b < 2 ^ 62) (ha : 0 ≤ a ∧ a < 2 ^ 62) : CMul a b ∨ CMulW a b := .inl (.inl ⟨by omega, by omega⟩)
theorem join_cps' : ∀ ys : List Str, (Str.join ("" : Str) ys).cps.toList = (ys.map (·.cps.toList)).flatten
  | [] => rfl
  | [x] => by
    show x.cps.toList = _
    simp
  | x :: y :: r => by
    have ih := join_cps' (y :: r)
    show ((x.cps ++ (#[] : Array Nat)) ++ (Str.join ("" : Str) (y :: r)).cps).toList = _
    rw [Array.toList_append, ih]
    simp
theorem join_cps (ys : List Str) : (Txt.join ("" : Str) ys).cps.toList = (ys.map (·.cps.toList)).flatten := by
  rw [← join_cps', ← StrLaws.glued_eq_join]
  rfl
/-- one letter -/
def G1 (c : Str) : Prop := ∃ n, c = ⟨#[n]⟩ ∧ 97 ≤ n ∧ n ≤ 122
theorem letter_at {i : Int} (h0 : 0 ≤ i) (h1 : i < 26) : ∃ c, atS ("abcdefghijklmnopqrstuvwxyz" : Str) i = some c ∧ G1 c := by
  have key : ∀ k : Fin 26, atS ("abcdefghijklmnopqrstuvwxyz" : Str) (k.val : Int) = some ⟨#[97 + k.val]⟩ := by decide +kernel
  have z := key ⟨i.toNat, by omega⟩
  have e : ((i.toNat : Nat) : Int) = i := by omega
  simp only [e] at z
  exact ⟨_, z, _, rfl, by omega, by omega⟩
theorem flat_len {ys : List Str} (h : ∀ y ∈ ys, G1 y) : ((ys.map (·.cps.toList)).flatten).length = ys.length ∧ ∀ c ∈ (ys.map (·.cps.toList)).flatten, 97 ≤ c ∧ c ≤ 122 := by
  induction ys with
  | nil => exact ⟨rfl, fun _ h => nomatch h⟩
  | cons y r ih =>
    obtain ⟨n, rfl, h1, h2⟩ := h y List.mem_cons_self
    obtain ⟨a, b⟩ := ih fun z hz => h z (List.mem_cons_of_mem _ hz)
    refine ⟨by simpa using a, fun c hc => ?_⟩
    rw [List.map_cons, List.flatten_cons] at hc
    rcases List.mem_append.mp hc with hc | hc
    · have : c = n := by simpa using hc
      omega
    · exact b c hc
theorem join_GN {ys : List Str} (h : ∀ y ∈ ys, G1 y) (h1 : 1 ≤ ys.length) (h2 : ys.length ≤ 8) : GN (Txt.join ("" : Str) ys) := by
  have e := join_cps ys
  obtain ⟨a, b⟩ := flat_len h
  have hl : (Txt.join ("" : Str) ys).length = ys.length := by
    show (Txt.join ("" : Str) ys).cps.size = _
    rw [← Array.length_toList, e, a]
  exact ⟨by omega, by omega, fun c hc => b c (by rw [← e]; exact hc)⟩
theorem sIx_int {n d : Nat} {i : Int} (h : 0 ≤ i) : HT.sIx n d (some i) = min i.toNat n := by
  have := HT.sIx_nat n d i.toNat
  rwa [show ((i.toNat : Nat) : Int) = i by omega] at this
theorem cut_hi {α : Type} {xs : List α} {i : Int} (h : 0 ≤ i) : cutL xs none (some i) = xs.take i.toNat := by
  unfold cutL
  rw [sIx_int h, HT.sIx_none, List.drop_zero, Nat.sub_zero]
  rcases Nat.le_total i.toNat xs.length with z | z
  · rw [Nat.min_eq_left z]
  · rw [Nat.min_eq_right z, List.take_of_length_le (Nat.le_refl _), List.take_of_length_le z]
theorem cut_lo {α : Type} {xs : List α} {i : Int} (h : 0 ≤ i) : cutL xs (some i) none = xs.drop i.toNat := by
  unfold cutL
  rw [sIx_int h, HT.sIx_none]
  rcases Nat.le_total i.toNat xs.length with z | z
  · rw [Nat.min_eq_left z, List.take_of_length_le]
    rw [List.length_drop]
    exact Nat.le_refl _
  · rw [Nat.min_eq_right z, List.drop_of_length_le z, List.drop_of_length_le (Nat.le_refl _), List.take_nil]
def GNb (s : Str) : Bool := decide (1 ≤ s.length) && (decide (s.length ≤ 8) && s.cps.toList.all fun c => decide (97 ≤ c) && decide (c ≤ 122))
theorem GNb_ok {s : Str} (h : GNb s = true) : GN s := by
  unfold GNb at h
  simp only [Bool.and_eq_true, decide_eq_true_eq, List.all_eq_true] at h
  exact ⟨h.1, h.2.1, h.2.2⟩
def words31 : List Str := [("none" : Str), ("log" : Str), ("full" : Str), ("step" : Str), ("wide" : Str), ("a" : Str), ("ab" : Str), ("files" : Str), ("run" : Str), ("put" : Str), ("gone" : Str), ("moments" : Str)]
theorem words_ok : ∀ w ∈ words31, GN w := by
  have key : (words31.all GNb) = true := by decide +kernel
  intro w hw
  exact GNb_ok (List.all_eq_true.mp key w hw)
structure GF (m : List (Str × List Int)) : Prop where
  nd : (ks m).Nodup
  nm : ∀ q ∈ m, GN q.1 ∧ GC q.2
  ln : m.length ≤ 8
theorem nd_le {α : Type} [DecidableEq α] : ∀ {xs ys : List α}, xs.Nodup → (∀ x ∈ xs, x ∈ ys) → xs.length ≤ ys.length
  | [], _, _, _ => Nat.zero_le _
  | x :: xs, ys, nd, h => by
    obtain ⟨h1, h2⟩ := List.nodup_cons.mp nd
    have := nd_le (ys := ys.erase x) h2 fun z hz => (List.mem_erase_of_ne (fun e => h1 (by rw [← e]; exact hz))).mpr (h z (List.mem_cons_of_mem _ hz))
    rw [List.length_erase_of_mem (h x List.mem_cons_self)] at this
    have := List.length_pos_of_mem (h x List.mem_cons_self)
    rw [List.length_cons]
    omega
theorem canLay_ints' : ∀ ns : List Int, PyData.canLayAll0 (ns.map PyData.int) = true
  | [] => rfl
  | n :: r => by simp [PyData.canLayAll0, PyData.canLay0, canLay_ints' r]
theorem depth_ints' : ∀ ns : List Int, PyData.depthAll (ns.map PyData.int) = 0
  | [] => rfl
  | n :: r => by simp [PyData.depthAll, PyData.depth, depth_ints' r]
theorem shaped_ints' (ns : List Int) : SeqAt.shaped (eL eI ns) = true := by
  unfold SeqAt.shaped eL
  rw [Bool.and_eq_true]
  refine ⟨by simpa [PyData.canLay0] using canLay_ints' ns, decide_eq_true ?_⟩
  simp only [PyData.depth]
  rw [depth_ints']
  decide
theorem GF.nil : GF [] := ⟨List.nodup_nil, (fun _ h => nomatch h), by decide⟩
theorem lk_mem {κ γ : Type} [DecidableEq κ] {m : List (κ × γ)} {n : κ} {x : γ} (h : lk m n = some x) : (n, x) ∈ m := by
  unfold lk at h
  cases e : m.find? fun p => decide (p.1 = n) with
  | none => rw [e] at h; cases h
  | some q =>
    rw [e] at h
    have h1 := List.mem_of_find?_eq_some e
    have h2 : q.1 = n := by simpa using List.find?_some e
    cases h
    rw [← h2]
    exact h1
theorem lk_some {κ γ : Type} [DecidableEq κ] {m : List (κ × γ)} {n : κ} (h : n ∈ ks m) : ∃ x, lk m n = some x := by
  induction m with
  | nil => cases h
  | cons q m ih =>
    rw [lk_cons]
    by_cases z : q.1 = n
    · exact ⟨_, if_pos z⟩
    · rw [if_neg z]
      exact ih ((List.mem_cons.mp h).resolve_left fun e => z e.symm)
theorem pk_keys {κ γ : Type} [DecidableEq κ] {m : List (κ × γ)} {n : κ} {x : γ} : ks (pk m n x) = if (lk m n).isSome then ks m else ks m ++ [n] := by
  unfold pk
  rw [any_lk]
  split
  · unfold ks
    rw [List.map_map]
    refine List.map_congr_left fun q _ => ?_
    show (if q.1 = n then (q.1, x) else q).1 = q.1
    split <;> rfl
  · simp [ks]
theorem not_mem_of_lk {κ γ : Type} [DecidableEq κ] {m : List (κ × γ)} {n : κ} (h : lk m n = none) : n ∉ ks m := fun z => by
  obtain ⟨x, e⟩ := lk_some z
  rw [h] at e
  cases e
theorem GF.put {m : List (Str × List Int)} {n : Str} {ns : List Int} (g : GF m) (hn : GN n) (hc : GC ns) (hl : (lk m n).isSome = true ∨ m.length < 8) : GF (pk m n ns) := by
  refine ⟨?_, fun q hq => ?_, ?_⟩
  · rw [pk_keys]
    cases e : lk m n with
    | none =>
      simp only [Option.isSome, Bool.false_eq_true, if_false]
      exact List.nodup_append.mpr ⟨g.nd, by simp, fun a ha b hb z => not_mem_of_lk e (by rw [← show b = n by simpa using hb, ← z]; exact ha)⟩
    | some x => exact g.nd
  · unfold pk at hq
    split at hq
    · obtain ⟨p, hp, rfl⟩ := List.mem_map.mp hq
      have := g.nm p hp
      split
      · exact ⟨this.1, hc⟩
      · exact this
    · rcases List.mem_append.mp hq with hq | hq
      · exact g.nm q hq
      · rw [show q = (n, ns) by simpa using hq]
        exact ⟨hn, hc⟩
  · unfold pk
    rw [any_lk]
    have := g.ln
    split
    · rw [List.length_map]
      exact this
    · rename_i z
      rw [List.length_append]
      simp
      rcases hl with h | h
      · exact absurd h z
      · omega
/-- what is told of all files -/
def cont (m : List (Str × List Int)) : List (Str × List Int) := (srtS' (ks m)).map fun n => (n, (lk m n).getD [])
theorem dcD_nd {f : Str → List (Str × List Int) → (Option (Str × List Int) → Prop) → Prop} {k : List (Str × List Int) → Prop} (g : Str → List Int) : ∀ {xs : List Str} {acc : List (Str × List Int)}, xs.Nodup → (∀ x ∈ xs, x ∉ ks acc) →
    (∀ x ∈ xs, ∀ acc (kk : Option (Str × List Int) → Prop), lk acc x = none → kk (some (x, g x)) → f x acc kk) → k (acc ++ xs.map fun x => (x, g x)) → dcD f xs acc k
  | [], acc, _, _, _, h => by simpa [dcD] using h
  | x :: xs, acc, nd, hn, hs, h => by
    obtain ⟨n1, n2⟩ := List.nodup_cons.mp nd
    have hx : lk acc x = none := by
      cases e : lk acc x with
      | none => rfl
      | some y => exact absurd (List.mem_map.mpr ⟨(x, y), lk_mem e, rfl⟩) (hn x List.mem_cons_self)
    refine hs x List.mem_cons_self acc _ hx ?_
    have e1 : pk acc x (g x) = acc ++ [(x, g x)] := by
      unfold pk
      rw [any_lk, hx]
      rfl
    show dcD f xs (pk acc x (g x)) k
    rw [e1]
    refine dcD_nd g n2 (fun y hy hz => ?_) (fun y hy => hs y (List.mem_cons_of_mem _ hy)) (by simpa using h)
    unfold ks at hz
    rw [List.map_append] at hz
    rcases List.mem_append.mp hz with hz | hz
    · exact hn y (List.mem_cons_of_mem _ hy) hz
    · rw [show y = x by simpa using hz] at hy
      exact n1 hy
theorem srt_nd {xs : List Str} (h : xs.Nodup) : (srtS' xs).Nodup := (srtS_perm xs).nodup_iff.mpr h
theorem srt_len (xs : List Str) : (srtS' xs).length = xs.length := (srtS_perm xs).length_eq
theorem ks_len {κ γ : Type} (m : List (κ × γ)) : (ks m).length = m.length := by simp [ks]
theorem srt_mem {xs : List Str} {x : Str} (h : x ∈ srtS' xs) : x ∈ xs := (srtS_perm xs).mem_iff.mp h
theorem cont_keys (m : List (Str × List Int)) : ks (cont m) = srtS' (ks m) := by
  unfold ks cont
  rw [List.map_map]
  exact List.map_id'' (fun _ => rfl) _
theorem dOf_nd {m acc : List (Str × List Int)} (h : (ks (acc ++ m)).Nodup) : m.foldl (fun acc q => pk acc q.1 q.2) acc = acc ++ m := by
  induction m generalizing acc with
  | nil => simp
  | cons q m ih =>
    have hx : q.1 ∉ ks acc := by
      unfold ks at h ⊢
      rw [List.map_append, List.map_cons, List.nodup_append] at h
      exact fun z => h.2.2 _ z _ List.mem_cons_self rfl
    have hn : lk acc q.1 = none := by
      cases e : lk acc q.1 with
      | none => rfl
      | some y => exact absurd (List.mem_map.mpr ⟨(q.1, y), lk_mem e, rfl⟩) hx
    have e1 : pk acc q.1 q.2 = acc ++ [q] := by
      unfold pk
      rw [any_lk, hn]
      rfl
    rw [List.foldl_cons, e1, ih (by simpa using h)]
    simp
theorem dOf_cont {m : List (Str × List Int)} (g : GF m) : dOf (cont m) = cont m := by
  have := dOf_nd (m := cont m) (acc := []) (by rw [List.nil_append, cont_keys]; exact srt_nd g.nd)
  simpa [dOf] using this
theorem GN.shq {s : Str} (g : GN s) : ShQ 0 8 (.str s) := by
  refine ⟨?_, rfl, ?_, by simp [PyData.depth], ?_⟩
  · show SeqAt.shaped (.str s) = true
    unfold SeqAt.shaped
    rw [Bool.and_eq_true]
    refine ⟨?_, by simp [PyData.depth]⟩
    simp only [PyData.canLay0, PyData.strOk]
    rw [Array.all_eq_true']
    intro c hc
    have := g.2.2 c (by simpa using hc)
    exact decide_eq_true (by omega)
  · simp only [PyData.leavesShort, List.all_eq_true]
    intro c hc
    have := g.2.2 c hc
    exact decide_eq_true (by omega)
  · exact g.2.1
theorem GC.shq {ns : List Int} (g : GC ns) : ShQ 1 48 (eL eI ns) := by
  have h := ShQ.list (dp := 0) (bk := 0) (ds := ns.map eI) fun d hd => by
    obtain ⟨n, hn, rfl⟩ := List.mem_map.mp hd
    have := g.2 n hn
    exact ShQ.int (Nat.lt_of_lt_of_le (show n.natAbs < 2 ^ 10 by omega) (by decide))
  rw [List.length_map] at h
  exact h.up (Nat.le_refl _) (by have := g.1; omega)
theorem strs_shq {xs : List Str} (h : ∀ x ∈ xs, GN x) (hl : xs.length ≤ 8) : ShQ 1 72 (eL eS xs) := by
  have h := ShQ.list (dp := 0) (bk := 8) (ds := xs.map eS) fun d hd => by
    obtain ⟨n, hn, rfl⟩ := List.mem_map.mp hd
    exact (h n hn).shq
  rw [List.length_map] at h
  exact h.up (Nat.le_refl _) (by omega)
theorem nd_map {α β : Type} {f : α → β} (inj : ∀ a b, f a = f b → a = b) : ∀ {l : List α}, l.Nodup → (l.map f).Nodup
  | [], _ => List.nodup_nil
  | x :: r, h => by
    obtain ⟨h1, h2⟩ := List.nodup_cons.mp h
    rw [List.map_cons]
    refine List.nodup_cons.mpr ⟨fun z => ?_, nd_map inj h2⟩
    obtain ⟨y, hy, e⟩ := List.mem_map.mp z
    rw [inj _ _ e] at hy
    exact h1 hy
theorem dict_shq : ∀ {m : List (Str × List Int)}, (ks m).Nodup → (∀ q ∈ m, GN q.1 ∧ GC q.2) → ShQ 2 (m.length * 58) (eD iS (eL eI) m) := by
  intro m nd h
  have key : ∀ {m : List (Str × List Int)}, (∀ q ∈ m, GN q.1 ∧ GC q.2) → dOkK (m.map fun p => (kD (iS p.1), eL eI p.2)) ∧ PyData.showableKv (m.map fun p => (kD (iS p.1), eL eI p.2)) = true ∧ PyData.leavesShortKv 400 (m.map fun p => (kD (iS p.1), eL eI p.2)) = true ∧
      PyData.depthKv (m.map fun p => (kD (iS p.1), eL eI p.2)) ≤ 1 ∧ PyData.bulkKv (m.map fun p => (kD (iS p.1), eL eI p.2)) ≤ m.length * 58 := by
    intro m
    induction m with
    | nil => exact fun _ => ⟨trivial, rfl, rfl, Nat.zero_le _, Nat.zero_le _⟩
    | cons q m ih =>
      intro h
      obtain ⟨h0, h1, h2, h3, h4⟩ := ih fun z hz => h z (List.mem_cons_of_mem _ hz)
      obtain ⟨a, b⟩ := h q List.mem_cons_self
      have sa : ShQ 0 8 (kD (iS q.1)) := a.shq
      have sb := b.shq
      refine ⟨⟨sb.ok, h0⟩, ?_, ?_, ?_, ?_⟩
      · simp [PyData.showableKv, sa.sh, sb.sh, h1]
      · simp [PyData.leavesShortKv, sa.lf, sb.lf, h2]
      · simp only [List.map_cons, PyData.depthKv]
        have := sa.dp
        have := sb.dp
        omega
      · simp only [List.map_cons, PyData.bulkKv, List.length_cons]
        have := sa.bk
        have := sb.bk
        omega
  obtain ⟨h0, h1, h2, h3, h4⟩ := key h
  refine ⟨⟨?_, h0⟩, by simpa [PyData.showable, eD] using h1, by simpa [PyData.leavesShort, eD] using h2, ?_, by simpa [PyData.bulk, eD] using h4⟩
  · rw [List.map_map]
    have e : ((fun x : PyData × PyData => x.1) ∘ fun p : Str × List Int => (kD (iS p.1), eL eI p.2)) = (fun n : Str => kD (iS n)) ∘ (fun p : Str × List Int => p.1) := rfl
    rw [e, ← List.map_map]
    exact nd_map (fun a b z => injS _ _ (kD_inj z)) nd
  · simp only [eD, PyData.depth]
    omega
theorem cont_good {m : List (Str × List Int)} (g : GF m) : GF (cont m) := by
  refine ⟨by rw [cont_keys]; exact srt_nd g.nd, fun q hq => ?_, ?_⟩
  · obtain ⟨n, hn, rfl⟩ := List.mem_map.mp hq
    obtain ⟨y, hy⟩ := lk_some (srt_mem hn)
    have := g.nm _ (lk_mem hy)
    dsimp only
    rw [hy]
    exact this
  · have := g.ln
    unfold cont
    rw [List.length_map, srt_len, ks_len]
    exact this
theorem names_good {m : List (Str × List Int)} (g : GF m) : ∀ x ∈ srtS' (ks m), GN x := fun x hx => by
  obtain ⟨q, hq, rfl⟩ := List.mem_map.mp (srt_mem hx)
  exact (g.nm q hq).1
end RC

namespace RC
open PySem PySem.Spec PyProof.Rows L2
/-! ### what is told of dicts -/
section
variable {κ α β γ : Type} [DecidableEq κ]
def tr (f : α → β) (m : List (κ × α)) : List (κ × β) := m.map fun p => (p.1, f p.2)
@[simp] theorem ks_tr (f : α → β) (m : List (κ × α)) : ks (tr f m) = ks m := by simp [ks, tr]
@[simp] theorem len_tr (f : α → β) (m : List (κ × α)) : (tr f m).length = m.length := by simp [tr]
@[simp] theorem lk_nil (k : κ) : lk ([] : List (κ × α)) k = none := rfl
theorem lk_tr (f : α → β) (k : κ) : ∀ m : List (κ × α), lk (tr f m) k = (lk m k).map f
  | [] => rfl
  | p :: m => by
    show lk ((p.1, f p.2) :: tr f m) k = _
    rw [lk_cons, lk_cons, lk_tr f k m]
    split <;> rfl
theorem tr_cons (f : α → β) (p : κ × α) (m : List (κ × α)) : tr f (p :: m) = (p.1, f p.2) :: tr f m := rfl
theorem pk_tr (f : α → β) (m : List (κ × α)) (k : κ) (x : α) : pk (tr f m) k (f x) = tr f (pk m k x) := by
  unfold pk
  have e : ((tr f m).any fun p => decide (p.1 = k)) = (m.any fun p => decide (p.1 = k)) := by simp [tr, List.any_map, Function.comp_def]
  rw [e]
  split
  · simp only [tr, List.map_map]
    congr 1
    funext p
    simp only [Function.comp]
    split <;> rfl
  · simp [tr]
theorem dk_tr (f : α → β) (m : List (κ × α)) (k : κ) : dk (tr f m) k = tr f (dk m k) := by
  simp [dk, tr, List.filter_map, Function.comp_def]
theorem lk_pk (m : List (κ × α)) (k j : κ) (x : α) : lk (pk m k x) j = if j = k then some x else lk m j := by
  unfold pk
  split
  · rename_i h
    induction m with
    | nil => simp at h
    | cons p m ih =>
      rw [List.map_cons, lk_cons, lk_cons]
      by_cases z : p.1 = k
      · rw [if_pos z]
        by_cases y : j = k
        · subst y
          simp [z]
        · rw [if_neg (by rw [z]; exact fun q => y q.symm), if_neg y, if_neg (by rw [z]; exact fun q => y q.symm)]
          by_cases hh : (m.any fun p => decide (p.1 = k)) = true
          · rw [ih hh, if_neg y]
          · have : m.map (fun p => if p.1 = k then (p.1, x) else p) = m := by
              rw [List.map_congr_left (g := id), List.map_id]
              intro q hq
              have : ¬ q.1 = k := fun z => hh (List.any_eq_true.mpr ⟨q, hq, by simpa using z⟩)
              simp [this]
            rw [this]
      · rw [if_neg z]
        have hh : (m.any fun p => decide (p.1 = k)) = true := by simpa [z] using h
        by_cases y : p.1 = j
        · rw [if_pos y, if_pos y, if_neg (fun q => z (y.trans q))]
        · rw [if_neg y, if_neg y, ih hh]
  · rename_i h
    induction m with
    | nil =>
      show lk ([] ++ [(k, x)]) j = _
      rw [List.nil_append, lk_cons]
      by_cases y : j = k
      · subst y; simp
      · rw [if_neg (fun q => y q.symm), if_neg y]
    | cons p m ih =>
      have hp : ¬ p.1 = k := fun z => h (by simp [z])
      have hm : ¬ (m.any fun p => decide (p.1 = k)) = true := fun z => h (by rw [List.any_cons, z]; simp)
      rw [List.cons_append, lk_cons, lk_cons, ih hm]
      by_cases y : p.1 = j
      · rw [if_pos y, if_pos y, if_neg (fun q => hp (y.trans q))]
      · rw [if_neg y, if_neg y]
theorem lk_dk (m : List (κ × α)) (k j : κ) : lk (dk m k) j = if j = k then none else lk m j := by
  induction m with
  | nil => simp [dk]
  | cons p m ih =>
    unfold dk at ih ⊢
    rw [List.filter_cons]
    by_cases z : p.1 = k
    · rw [if_neg (by simp [z]), ih, lk_cons]
      by_cases y : j = k
      · rw [if_pos y, if_pos y]
      · rw [if_neg y, if_neg y, if_neg (fun q => y (q.symm.trans z))]
    · rw [if_pos (by simp [z]), lk_cons, lk_cons, ih]
      by_cases y : p.1 = j
      · rw [if_pos y, if_pos y, if_neg (fun q => z (y.trans q))]
      · rw [if_neg y, if_neg y]
theorem ks_dk (m : List (κ × α)) (k : κ) : ks (dk m k) = (ks m).filter fun q => decide (q ≠ k) := by
  simp only [ks, dk, List.filter_map]
  rfl
theorem mem_of_lk {m : List (κ × α)} {k : κ} {x : α} (h : lk m k = some x) : k ∈ ks m := List.mem_map.mpr ⟨_, lk_mem h, rfl⟩
theorem lk_iff {m : List (κ × α)} {k : κ} : (lk m k).isSome = true ↔ k ∈ ks m := by
  constructor
  · intro h
    obtain ⟨x, hx⟩ := Option.isSome_iff_exists.mp h
    exact mem_of_lk hx
  · intro h
    obtain ⟨x, hx⟩ := lk_some h
    rw [hx]
    rfl
theorem lk_none_iff {m : List (κ × α)} {k : κ} : lk m k = none ↔ k ∉ ks m := by
  constructor
  · exact not_mem_of_lk
  · intro h
    cases e : lk m k with
    | none => rfl
    | some x => exact absurd (mem_of_lk e) h
theorem pk_new {m : List (κ × α)} {k : κ} {x : α} (h : lk m k = none) : pk m k x = m ++ [(k, x)] := by
  unfold pk
  rw [any_lk, h]
  rfl
theorem ks_pk_old {m : List (κ × α)} {k : κ} {x : α} (h : (lk m k).isSome = true) : ks (pk m k x) = ks m := by rw [pk_keys, if_pos h]
theorem nd_pk {m : List (κ × α)} {k : κ} {x : α} (h : (ks m).Nodup) : (ks (pk m k x)).Nodup := by
  rw [pk_keys]
  split
  · exact h
  · rename_i z
    have hn : k ∉ ks m := fun q => z (lk_iff.mpr q)
    exact List.nodup_append.mpr ⟨h, by simp, fun a ha b hb => by
      have : b = k := by simpa using hb
      rw [this]
      exact fun e => hn (e ▸ ha)⟩
theorem nd_dk {m : List (κ × α)} {k : κ} (h : (ks m).Nodup) : (ks (dk m k)).Nodup := by
  rw [ks_dk]
  exact h.sublist List.filter_sublist
theorem lk_of_mem {m : List (κ × α)} (nd : (ks m).Nodup) {p : κ × α} (h : p ∈ m) : lk m p.1 = some p.2 := by
  induction m with
  | nil => cases h
  | cons q m ih =>
    have nd' := List.nodup_cons.mp (show (q.1 :: ks m).Nodup from nd)
    rw [lk_cons]
    rcases List.mem_cons.mp h with rfl | h
    · rw [if_pos rfl]
    · have hq : ¬ q.1 = p.1 := fun z => nd'.1 (by rw [z]; exact List.mem_map.mpr ⟨p, h, rfl⟩)
      rw [if_neg hq, ih nd'.2 h]
theorem mem_pk {m : List (κ × α)} {k : κ} {x : α} {q : κ × α} (h : q ∈ pk m k x) : q = (k, x) ∨ (q ∈ m ∧ q.1 ≠ k) ∨ q ∈ m := by
  unfold pk at h
  split at h
  · obtain ⟨p, hp, e⟩ := List.mem_map.mp h
    split at e
    · rename_i z
      left
      rw [← e, z]
    · right; right
      rw [← e]
      exact hp
  · rcases List.mem_append.mp h with h | h
    · exact .inr (.inr h)
    · left
      simpa using h
theorem mem_dk {m : List (κ × α)} {k : κ} {q : κ × α} (h : q ∈ dk m k) : q ∈ m ∧ q.1 ≠ k := by
  obtain ⟨h1, h2⟩ := List.mem_filter.mp h
  exact ⟨h1, by simpa using h2⟩
theorem dk_le (m : List (κ × α)) (k : κ) : (dk m k).length ≤ m.length := List.length_filter_le _ _
/-- two dicts without a key twice, of the same keys in order and the same values, are the same -/
theorem dict_ext {m n : List (κ × α)} (nd : (ks m).Nodup) (hk : ks m = ks n) (h : ∀ k, lk m k = lk n k) : m = n := by
  have nd2 : (ks n).Nodup := hk ▸ nd
  have hl : m.length = n.length := by
    have := congrArg List.length hk
    simpa [ks] using this
  apply List.ext_getElem hl
  intro i h1 h2
  have e1 : (ks m)[i]? = some (m[i]).1 := by simp [ks, h1]
  have e2 : (ks n)[i]? = some (n[i]).1 := by simp [ks, h2]
  rw [hk, e2] at e1
  have e3 := Option.some.inj e1
  have a := lk_of_mem nd (List.getElem_mem h1)
  have b := lk_of_mem nd2 (List.getElem_mem h2)
  rw [h, ← e3, b] at a
  exact Prod.ext e3.symm (Option.some.inj a).symm
end
/-! ### loops -/
theorem lcD_fm {α β : Type} {f : α → (Option β → Prop) → Prop} {k : List β → Prop} (g : α → Option β) : ∀ {xs : List α} {acc : List β}, (∀ x ∈ xs, ∀ kk : Option β → Prop, kk (g x) → f x kk) → k (acc ++ xs.filterMap g) → lcD f xs acc k
  | [], acc, _, h => by simpa [lcD] using h
  | x :: xs, acc, hs, h => by
    refine hs x List.mem_cons_self _ ?_
    cases e : g x with
    | none =>
      rw [List.filterMap_cons_none e] at h
      exact lcD_fm g (fun y hy => hs y (List.mem_cons_of_mem _ hy)) (by simpa using h)
    | some y =>
      rw [List.filterMap_cons_some e] at h
      refine lcD_fm g (fun y hy => hs y (List.mem_cons_of_mem _ hy)) ?_
      rw [List.append_assoc]
      exact h
theorem lcD_filter {α : Type} {f : α → (Option α → Prop) → Prop} {k : List α → Prop} (c : α → Bool) {xs : List α} (hs : ∀ x ∈ xs, ∀ kk : Option α → Prop, (if c x = true then kk (some x) else kk none) → f x kk) (h : k (xs.filter c)) : lcD f xs [] k := by
  refine lcD_fm (fun x => if c x = true then some x else none) (fun x hx kk hk => hs x hx kk ?_) ?_
  · split
    · rename_i z; rw [if_pos z] at hk; exact hk
    · rename_i z; rw [if_neg z] at hk; exact hk
  · have : xs.filterMap (fun x => if c x = true then some x else none) = xs.filter c := by
      rw [← List.filterMap_eq_filter]
      congr 1
    rw [this]
    exact h
theorem forD_fold {α β : Type} {f : α → β → (β → Prop) → Prop} (Inv : β → Prop) (g : β → α → β) : ∀ {xs : List α} {s : β} {k : β → Prop}, Inv s → (∀ x ∈ xs, ∀ s, Inv s → Inv (g s x) ∧ ∀ kk : β → Prop, kk (g s x) → f x s kk) → (Inv (xs.foldl g s) → k (xs.foldl g s)) → forD f xs s k
  | [], s, k, h0, _, hd => hd h0
  | x :: xs, s, k, h0, hs, hd => by
    obtain ⟨h1, h2⟩ := hs x List.mem_cons_self s h0
    exact h2 _ (forD_fold Inv g h1 (fun y hy => hs y (List.mem_cons_of_mem _ hy)) hd)
/-! ### sorted numbers -/
theorem srtI_perm (xs : List Int) : (srt xs).Perm xs := srt_perm xs
theorem srtI_mem {xs : List Int} {x : Int} : x ∈ srt xs ↔ x ∈ xs := (srt_perm xs).mem_iff
theorem srtI_len (xs : List Int) : (srt xs).length = xs.length := (srt_perm xs).length_eq
theorem srtI_nd {xs : List Int} (h : xs.Nodup) : (srt xs).Nodup := (srt_perm xs).nodup_iff.mpr h
theorem srt_filter (xs : List Int) (c : Int → Bool) : (srt xs).filter c = srt (xs.filter c) := srt_eq ((srt_perm xs).filter c) ((srt_sorted xs).filter c)
theorem srt_congr {xs ys : List Int} (h : xs.Perm ys) : srt xs = srt ys := srt_eq ((srt_perm xs).trans h) (srt_sorted xs)
theorem mxI_perm {xs ys : List Int} (h : xs.Perm ys) : mxI xs = mxI ys := by
  cases e : mxI ys with
  | none =>
    cases ys with
    | nil => rw [h.eq_nil]; rfl
    | cons y ys => cases e
  | some m =>
    obtain ⟨h1, h2⟩ := mxI_ok e
    exact mxI_eq (h.mem_iff.mpr h1) fun y hy => h2 y (h.mem_iff.mp hy)
theorem mxI_some {xs : List Int} (h : xs ≠ []) : ∃ m, mxI xs = some m := by
  cases xs with
  | nil => exact absurd rfl h
  | cons x xs => exact ⟨_, rfl⟩
/-! ### data that is small -/
theorem ShQ.tup {dp bk : Nat} {ds : List PyData} (h : ∀ d ∈ ds, ShQ dp bk d) : ShQ (dp + 1) (ds.length * (bk + 1)) (.tuple ds) := by
  obtain ⟨h0, h1, h2, h3, h4⟩ := ShQ.all h
  refine ⟨h0, by simpa [PyData.showable] using h1, by simpa [PyData.leavesShort] using h2, ?_, by simpa [PyData.bulk] using h4⟩
  simp only [PyData.depth]
  omega
theorem ShQ.non : ShQ 0 0 .none := ⟨trivial, rfl, rfl, by simp [PyData.depth], by simp [PyData.bulk]⟩
theorem ShQ.bl (b : Bool) : ShQ 0 0 (.bool b) := ⟨trivial, rfl, rfl, by simp [PyData.depth], by simp [PyData.bulk]⟩
theorem ShQ.opt {x : Option Int} (h : ∀ n, x = some n → n.natAbs < 2 ^ 1000) : ShQ 0 0 (eO eI x) := by
  cases x with
  | none => exact ShQ.non
  | some n => exact ShQ.int (h n rfl)
theorem ShQ.ints {ns : List Int} (h : ∀ n ∈ ns, n.natAbs < 2 ^ 1000) : ShQ 1 ns.length (eL eI ns) := by
  have := ShQ.list (dp := 0) (bk := 0) (ds := ns.map eI) (fun d hd => by
    obtain ⟨n, hn, rfl⟩ := List.mem_map.mp hd
    exact ShQ.int (h n hn))
  simpa [eL] using this
/-- words: by looking -/
def wdb (s : Str) : Bool := SeqAt.shaped (.str s) && ((PyData.str s).showable && ((PyData.str s).leavesShort 400 && decide (s.length ≤ 16)))
theorem ShQ.wd {s : Str} (h : wdb s = true) : ShQ 0 16 (.str s) := by
  simp only [wdb, Bool.and_eq_true, decide_eq_true_eq] at h
  exact ⟨h.1, h.2.1, h.2.2.1, by simp [PyData.depth], h.2.2.2⟩
end RC

namespace RC
open PySem PySem.Spec PyProof.Rows L2
/-! ### how long data is when it is shown -/
structure Shn (dp sz : Nat) (d : PyData) : Prop where
  ok : dOk d
  sh : d.showable = true
  dp : d.depth ≤ dp
  ln : d.shown.length ≤ sz
structure ShnA (dp sz : Nat) (ds : List PyData) : Prop where
  ok : dOkA ds
  sh : PyData.showableAll ds = true
  dp : PyData.depthAll ds ≤ dp
  ln : ((PyData.shownAll ds).map (·.length)).sum + 2 * ds.length ≤ sz
theorem Shn.up {dp sz dp' sz' : Nat} {d : PyData} (h : Shn dp sz d) (h1 : dp ≤ dp') (h2 : sz ≤ sz') : Shn dp' sz' d := ⟨h.ok, h.sh, Nat.le_trans h.dp h1, Nat.le_trans h.ln h2⟩
theorem Shn.alk {dp sz : Nat} {d : PyData} (h : Shn dp sz d) (h1 : dp ≤ 60) (h2 : sz ≤ 16000000) : AlkOk d := ⟨h.ok, h.sh, Nat.le_trans h.dp h1, Nat.le_trans h.ln (Nat.le_trans h2 (by rw [sizeLine_eq]; decide))⟩
theorem Shn.dok {dp sz : Nat} {d : PyData} (h : Shn dp sz d) (h1 : dp ≤ 60) : dOk d ∧ d.depth ≤ 60 := ⟨h.ok, Nat.le_trans h.dp h1⟩
theorem ShQ.shn {dp bk : Nat} {d : PyData} (h : ShQ dp bk d) : Shn dp (402 * bk + 400) d := by
  refine ⟨h.ok, h.sh, h.dp, ?_⟩
  have z := PyData.shown_le_bulk 400 (by decide) d h.lf
  have b := h.bk
  omega
theorem ShnA.nil : ShnA 0 0 [] := ⟨trivial, rfl, Nat.le_refl _, Nat.le_refl _⟩
theorem ShnA.up {dp sz dp' sz' : Nat} {d : List PyData} (h : ShnA dp sz d) (h1 : dp ≤ dp') (h2 : sz ≤ sz') : ShnA dp' sz' d := ⟨h.ok, h.sh, Nat.le_trans h.dp h1, Nat.le_trans h.ln h2⟩
theorem ShnA.cons {dp s s' : Nat} {d : PyData} {ds : List PyData} (a : Shn dp s d) (b : ShnA dp s' ds) : ShnA dp (s + 2 + s') (d :: ds) := by
  have h1 := a.dp
  have h2 := b.dp
  have h3 := a.ln
  have h4 := b.ln
  refine ⟨⟨a.ok, b.ok⟩, by simp [PyData.showableAll, a.sh, b.sh], ?_, ?_⟩
  · simp only [PyData.depthAll]
    omega
  · simp only [PyData.shownAll, List.map_cons, List.sum_cons, List.length_cons]
    omega
theorem ShnA.all {dp s : Nat} : ∀ {ds : List PyData}, (∀ d ∈ ds, Shn dp s d) → ShnA dp (ds.length * (s + 2)) ds
  | [], _ => ShnA.nil.up (Nat.zero_le _) (Nat.zero_le _)
  | d :: ds, h => by
    have a := h d List.mem_cons_self
    have b := ShnA.all fun x hx => h x (List.mem_cons_of_mem _ hx)
    refine (ShnA.cons a b).up (Nat.le_refl _) ?_
    rw [List.length_cons, Nat.add_mul]
    omega
theorem ShnA.app {dp s s' : Nat} : ∀ {ds es : List PyData}, ShnA dp s ds → ShnA dp s' es → ShnA dp (s + s') (ds ++ es)
  | [], es, a, b => b.up (Nat.le_refl _) (by omega)
  | d :: ds, es, a, b => by
    have h1 := a.dp
    have h4 := a.ln
    have h0 := a.ok
    have hs := a.sh
    simp only [PyData.depthAll] at h1
    simp only [PyData.shownAll, List.map_cons, List.sum_cons, List.length_cons] at h4
    simp only [PyData.showableAll, Bool.and_eq_true] at hs
    have c : ShnA dp (((PyData.shownAll ds).map (·.length)).sum + 2 * ds.length) ds := ⟨h0.2, hs.2, by omega, Nat.le_refl _⟩
    have e : Shn dp d.shown.length d := ⟨h0.1, hs.1, by omega, Nat.le_refl _⟩
    exact (ShnA.cons e (ShnA.app c b)).up (Nat.le_refl _) (by omega)
theorem Shn.list {dp s : Nat} {ds : List PyData} (h : ShnA dp s ds) : Shn (dp + 1) (s + 3) (.list ds) := by
  have h1 := h.dp
  have h2 := listText_len_le (PyData.shownAll ds)
  have h3 := PyData.shownAll_length ds
  have h4 := h.ln
  refine ⟨h.ok, by simpa [PyData.showable] using h.sh, ?_, ?_⟩
  · simp only [PyData.depth]
    omega
  · simp only [PyData.shown]
    omega
theorem Shn.tup {dp s : Nat} {ds : List PyData} (h : ShnA dp s ds) : Shn (dp + 1) (s + 3) (.tuple ds) := by
  have h1 := h.dp
  have h2 := tupleText_len_le (PyData.shownAll ds)
  have h3 := PyData.shownAll_length ds
  have h4 := h.ln
  refine ⟨h.ok, by simpa [PyData.showable] using h.sh, ?_, ?_⟩
  · simp only [PyData.depth]
    omega
  · simp only [PyData.shown]
    omega
theorem Shn.listE {α : Type} {e : α → PyData} {dp s n : Nat} {xs : List α} (h : ∀ x ∈ xs, Shn dp s (e x)) (hl : xs.length ≤ n) : Shn (dp + 1) (n * (s + 2) + 3) (eL e xs) := by
  have := Shn.list (ShnA.all (ds := xs.map e) (dp := dp) (s := s) fun d hd => by
    obtain ⟨x, hx, rfl⟩ := List.mem_map.mp hd
    exact h x hx)
  rw [List.length_map] at this
  exact this.up (Nat.le_refl _) (Nat.add_le_add_right (Nat.mul_le_mul_right _ hl) _)
theorem Shn.int {n : Int} (k : Nat) (h0 : 0 < k) (hk : k ≤ 500) (h : n.natAbs < 10 ^ k) : Shn 0 (k + 1) (.int n) := by
  have l : n.natAbs.log2 < 1920 := by
    rcases Nat.eq_zero_or_pos n.natAbs with e | e
    · rw [e]
      decide
    · refine (Nat.log2_lt (by omega)).mpr (Nat.lt_of_lt_of_le h ?_)
      exact Nat.le_trans (Nat.pow_le_pow_right (by decide) hk) (by decide +kernel)
  refine ⟨trivial, by simpa [PyData.showable] using l, by simp [PyData.depth], ?_⟩
  have := int_text_length_le10 (a := n) (k := k) h0 h
  simp only [PyData.shown]
  rw [PySem.ofString_length]
  exact this
theorem Shn.non : Shn 0 4 .none := ⟨trivial, rfl, by simp [PyData.depth], by decide⟩
theorem Shn.bl (b : Bool) : Shn 0 5 (.bool b) := ⟨trivial, rfl, by simp [PyData.depth], by cases b <;> decide⟩
/-- words: by looking -/
theorem Shn.wd {s : Str} (h : wdb s = true) : Shn 0 200 (.str s) := by
  simp only [wdb, Bool.and_eq_true, decide_eq_true_eq] at h
  refine ⟨h.1, h.2.1, by simp [PyData.depth], ?_⟩
  have hx : ∀ c ∈ s.cps.toList, c < 16 ^ 8 := by simpa only [PyData.leavesShort, List.all_eq_true, decide_eq_true_eq] using h.2.2.1
  have e := PySem.StrLaws.reprText_len s hx
  have l : s.length ≤ 16 := h.2.2.2
  simp only [PyData.shown]
  omega
theorem GN.shn {s : Str} (g : GN s) : Shn 0 100 (.str s) := by
  have q := g.shq
  refine ⟨q.ok, q.sh, q.dp, ?_⟩
  have hx : ∀ c ∈ s.cps.toList, c < 16 ^ 8 := fun c hc => by
    have := (g.2.2 c hc).2
    omega
  have e := PySem.StrLaws.reprText_len s hx
  have l : s.length ≤ 8 := g.2.1
  simp only [PyData.shown]
  omega
theorem Shn.opt {x : Option Int} (k : Nat) (h0 : 3 ≤ k) (hk : k ≤ 500) (h : ∀ n, x = some n → n.natAbs < 10 ^ k) : Shn 0 (k + 1) (eO eI x) := by
  cases x with
  | none => exact Shn.non.up (Nat.le_refl _) (by omega)
  | some n => exact Shn.int k (by omega) hk (h n rfl)
theorem Shn.dict {α : Type} {e : α → PyData} {dp s n : Nat} {m : List (Str × α)} (nd : (ks m).Nodup) (h : ∀ q ∈ m, GN q.1 ∧ Shn dp s (e q.2)) (hl : m.length ≤ n) : Shn (dp + 1) (n * (s + 104) + 3) (eD iS e m) := by
  have key : ∀ {m : List (Str × α)}, (∀ q ∈ m, GN q.1 ∧ Shn dp s (e q.2)) → dOkK (m.map fun p => (kD (iS p.1), e p.2)) ∧ PyData.showableKv (m.map fun p => (kD (iS p.1), e p.2)) = true ∧
      PyData.depthKv (m.map fun p => (kD (iS p.1), e p.2)) ≤ dp ∧ ((PyData.shownKv (m.map fun p => (kD (iS p.1), e p.2))).map (·.length)).sum + 2 * m.length ≤ m.length * (s + 104) := by
    intro m
    induction m with
    | nil => exact fun _ => ⟨trivial, rfl, Nat.zero_le _, Nat.zero_le _⟩
    | cons q m ih =>
      intro h
      obtain ⟨h0, h1, h3, h4⟩ := ih fun z hz => h z (List.mem_cons_of_mem _ hz)
      obtain ⟨a, b⟩ := h q List.mem_cons_self
      have sa : Shn 0 100 (kD (iS q.1)) := a.shn
      have b1 := b.ln
      have b2 := sa.ln
      have b3 := b.dp
      have b4 := sa.dp
      refine ⟨⟨b.ok, h0⟩, ?_, ?_, ?_⟩
      · simp [PyData.showableKv, sa.sh, b.sh, h1]
      · simp only [List.map_cons, PyData.depthKv]
        omega
      · have e2 : ((kD (iS q.1)).shown ++ ": " ++ (e q.2).shown).length = (kD (iS q.1)).shown.length + 2 + (e q.2).shown.length := by
          rw [PySem.strLen_append, PySem.strLen_append]
          rfl
        simp only [List.map_cons, PyData.shownKv, List.sum_cons, List.length_cons]
        rw [Nat.add_mul]
        omega
  obtain ⟨h0, h1, h3, h4⟩ := key h
  have h5 := dictText_len_le (PyData.shownKv (m.map fun p => (kD (iS p.1), e p.2)))
  have h6 := PyData.shownKv_length (m.map fun p => (kD (iS p.1), e p.2))
  rw [List.length_map] at h6
  have h7 := Nat.mul_le_mul_right (s + 104) hl
  refine ⟨⟨?_, h0⟩, by simpa [PyData.showable, eD] using h1, ?_, ?_⟩
  · rw [List.map_map]
    have e : ((fun x : PyData × PyData => x.1) ∘ fun p : Str × α => (kD (iS p.1), e p.2)) = (fun n : Str => kD (iS n)) ∘ (fun p : Str × α => p.1) := rfl
    rw [e, ← List.map_map]
    exact nd_map (fun a b z => injS _ _ (kD_inj z)) nd
  · simp only [eD, PyData.depth]
    omega
  · simp only [eD, PyData.shown]
    omega
end RC

namespace RC
open PySem PySem.Spec PyProof.Rows L2
/-! ### tables of sets: laying all anew finds a place for each -/
/-- the round i -> 5 i + 1 from nought -/
def orb (m : Nat) : Nat → Nat → List Nat
  | 0, _ => []
  | n + 1, i => i :: orb m n ((i * 5 + 1) % (m + 1))
def orbOk (m : Nat) : Bool := (List.range (m + 1)).all fun j => (orb m (m + 1) 0).contains j
def stp (m : Nat) : Nat → Nat → Nat
  | 0, i => i
  | n + 1, i => stp m n ((i * 5 + 1) % (m + 1))
theorem stp_add (m : Nat) : ∀ (a b i : Nat), stp m (a + b) i = stp m b (stp m a i)
  | 0, b, i => by rw [Nat.zero_add]; rfl
  | a + 1, b, i => by
    rw [Nat.succ_add]
    exact stp_add m a b _
theorem orb_mem {m j : Nat} : ∀ {n i : Nat}, j ∈ orb m n i → ∃ b, b < n ∧ stp m b i = j
  | 0, i, h => by cases h
  | n + 1, i, h => by
    rcases List.mem_cons.mp h with rfl | h
    · exact ⟨0, Nat.succ_pos _, rfl⟩
    · obtain ⟨b, h1, h2⟩ := orb_mem h
      exact ⟨b + 1, by omega, h2⟩
structure MOk (m : Nat) : Prop where
  all : orbOk m = true
  back : stp m (m + 1) 0 = 0
theorem MOk.meets {m : Nat} (h : MOk m) {i j : Nat} (hi : i ≤ m) (hj : j ≤ m) : ∃ b, b ≤ m ∧ stp m b i = j := by
  have get : ∀ j, j ≤ m → ∃ b, b < m + 1 ∧ stp m b 0 = j := fun j hj => by
    have := List.all_eq_true.mp h.all j (List.mem_range.mpr (by omega))
    exact orb_mem (by simpa using this)
  obtain ⟨a, ha, ea⟩ := get i hi
  obtain ⟨b, hb, eb⟩ := get j hj
  by_cases z : a ≤ b
  · refine ⟨b - a, by omega, ?_⟩
    rw [← ea, ← stp_add, show a + (b - a) = b by omega]
    exact eb
  · refine ⟨m + 1 - a + b, by omega, ?_⟩
    rw [← ea, ← stp_add, show a + (m + 1 - a + b) = (m + 1) + b by omega, stp_add, h.back]
    exact eb
theorem mok7 : MOk 7 := ⟨by decide +kernel, by decide +kernel⟩
theorem mok15 : MOk 15 := ⟨by decide +kernel, by decide +kernel⟩
theorem mok31 : MOk 31 := ⟨by decide +kernel, by decide +kernel⟩
theorem mok63 : MOk 63 := ⟨by decide +kernel, by decide +kernel⟩
theorem mok127 : MOk 127 := ⟨by decide +kernel, by decide +kernel⟩
theorem mok255 : MOk 255 := ⟨by decide +kernel, by decide +kernel⟩
theorem mok_size {n : Nat} (h : n < 256) : MOk (SetTable.sizeAbove n - 1) ∧ n < SetTable.sizeAbove n ∧ SetTable.sizeAbove n ≤ 256 := by
  have all : ((List.range 256).all fun n => ([7, 15, 31, 63, 127, 255].contains (SetTable.sizeAbove n - 1)) && (decide (n < SetTable.sizeAbove n) && decide (SetTable.sizeAbove n ≤ 256))) = true := by decide +kernel
  have := List.all_eq_true.mp all n (List.mem_range.mpr h)
  simp only [Bool.and_eq_true, decide_eq_true_eq, List.contains_iff_mem, List.mem_cons, List.not_mem_nil, or_false] at this
  refine ⟨?_, this.2⟩
  rcases this.1 with e | e | e | e | e | e <;> rw [e]
  · exact mok7
  · exact mok15
  · exact mok31
  · exact mok63
  · exact mok127
  · exact mok255
/-- the starts of the runs -/
def itr (m : Nat) : Nat → Nat → Nat → Nat × Nat
  | 0, i, b => (i, b)
  | n + 1, i, b => itr m n (SetTable.leap m i b).1 (SetTable.leap m i b).2
theorem itr_add (m : Nat) : ∀ (a c i b : Nat), itr m (a + c) i b = itr m c (itr m a i b).1 (itr m a i b).2
  | 0, c, i, b => by rw [Nat.zero_add]; rfl
  | a + 1, c, i, b => by
    rw [Nat.succ_add]
    exact itr_add m a c _ _
theorem itr_snd (m : Nat) : ∀ (n i b : Nat), (itr m n i b).2 = b / 32 ^ n
  | 0, i, b => by simp [itr]
  | n + 1, i, b => by
    show (itr m n _ _).2 = _
    rw [itr_snd m n]
    show b / 32 / 32 ^ n = _
    rw [Nat.div_div_eq_div_mul, Nat.pow_succ, Nat.mul_comm]
theorem itr_le (m : Nat) : ∀ (n i b : Nat), i ≤ m → (itr m n i b).1 ≤ m
  | 0, i, b, h => h
  | n + 1, i, b, _ => by
    refine itr_le m n _ _ ?_
    show (i * 5 + 1 + b / 32) % (m + 1) ≤ m
    exact Nat.le_of_lt_succ (Nat.mod_lt _ (Nat.succ_pos _))
theorem itr_zero (m : Nat) : ∀ (n i : Nat), (itr m n i 0).1 = stp m n i
  | 0, i => rfl
  | n + 1, i => by
    show (itr m n ((i * 5 + 1 + 0 / 32) % (m + 1)) (0 / 32)).1 = stp m n ((i * 5 + 1) % (m + 1))
    rw [Nat.zero_div]
    exact itr_zero m n _
theorem itr_meets {m : Nat} (h : MOk m) {i b j : Nat} (hi : i ≤ m) (hb : b < 2 ^ 64) (hj : j ≤ m) : ∃ n, n < SetTable.turns m ∧ (itr m n i b).1 = j := by
  have z : (itr m 13 i b).2 = 0 := by
    rw [itr_snd]
    exact Nat.div_eq_of_lt (Nat.lt_of_lt_of_le hb (by decide))
  obtain ⟨k, hk, ek⟩ := h.meets (itr_le m 13 i b hi) hj
  refine ⟨13 + k, by unfold SetTable.turns; omega, ?_⟩
  rw [itr_add, z, itr_zero]
  exact ek
/-- a free place is found -/
theorem free_ok {m : Nat} {ow : Array (Option Nat)} {j : Nat} (hf : (ow.getD j (some 0)).isNone = true) : ∀ (f i b : Nat), (∃ n, n < f ∧ (itr m n i b).1 = j) → ∃ q, SetTable.layClean.free m ow f i b = some q ∧ (ow.getD q (some 0)).isNone = true
  | 0, i, b, ⟨n, h, _⟩ => absurd h (Nat.not_lt_zero _)
  | f + 1, i, b, ⟨n, hn, e⟩ => by
    unfold SetTable.layClean.free
    cases hd : (List.range (SetTable.runEnd m i + 1 - i)).find? fun k => (ow.getD (i + k) (some 0)).isNone with
    | some k => exact ⟨i + k, rfl, by simpa using List.find?_some hd⟩
    | none =>
      cases n with
      | zero =>
        have e : i = j := e
        subst e
        have h0 : 0 ∈ List.range (SetTable.runEnd m i + 1 - i) := by
          refine List.mem_range.mpr ?_
          unfold SetTable.runEnd
          split <;> omega
        have := List.find?_eq_none.mp hd 0 h0
        exact absurd (by simpa using hf) this
      | succ n => exact free_ok hf f _ _ ⟨n, by omega, e⟩
def occ (m : Nat) (ow : Array (Option Nat)) : List Nat := (List.range (m + 1)).filterMap fun j => ow.getD j none
structure OwI (m : Nat) (ow : Array (Option Nat)) (k : Nat) : Prop where
  sz : ow.size = m + 1
  pm : (occ m ow).Perm (List.range k)
theorem fm_congr {α β : Type} {f g : α → Option β} : ∀ {l : List α}, (∀ x ∈ l, f x = g x) → l.filterMap f = l.filterMap g
  | [], _ => rfl
  | x :: l, h => by
    rw [List.filterMap_cons, List.filterMap_cons, h x List.mem_cons_self, fm_congr fun y hy => h y (List.mem_cons_of_mem _ hy)]
theorem fm_all {α β : Type} {f : α → Option β} : ∀ {l : List α}, (∀ x ∈ l, (f x).isSome = true) → (l.filterMap f).length = l.length
  | [], _ => rfl
  | x :: l, h => by
    obtain ⟨y, hy⟩ := Option.isSome_iff_exists.mp (h x List.mem_cons_self)
    rw [List.filterMap_cons_some hy, List.length_cons, List.length_cons, fm_all fun z hz => h z (List.mem_cons_of_mem _ hz)]
theorem OwI.has {m k : Nat} {ow : Array (Option Nat)} (h : OwI m ow k) (hk : k ≤ m) : ∃ j, j ≤ m ∧ (ow.getD j (some 0)).isNone = true := by
  rcases Classical.em (∃ j, j ≤ m ∧ (ow.getD j (some 0)).isNone = true) with z | z
  · exact z
  · exfalso
    have all : ∀ j ∈ List.range (m + 1), (ow.getD j none).isSome = true := fun j hj => by
      have hl := List.mem_range.mp hj
      have : ¬ (ow.getD j (some 0)).isNone = true := fun q => z ⟨j, by omega, q⟩
      have e : ow.getD j none = ow.getD j (some 0) := by simp [Array.getD, h.sz, hl]
      rw [e]
      cases q : ow.getD j (some 0) with
      | none => rw [q] at this; exact absurd rfl this
      | some y => rfl
    have l1 := fm_all all
    have l2 := h.pm.length_eq
    simp only [occ] at l2
    rw [l1, List.length_range, List.length_range] at l2
    omega
theorem OwI.put {m k q : Nat} {ow : Array (Option Nat)} (h : OwI m ow k) (hq : (ow.getD q (some 0)).isNone = true) : OwI m (ow.setIfInBounds q (some k)) (k + 1) := by
  have hlt : q < ow.size := by
    rcases Nat.lt_or_ge q ow.size with z | z
    · exact z
    · simp [Array.getD, Nat.not_lt.mpr z] at hq
  have hn : ow.getD q none = none := by
    have e : ow.getD q none = ow.getD q (some 0) := by simp [Array.getD, hlt]
    rw [e]
    simpa using hq
  refine ⟨by simp [h.sz], ?_⟩
  have hs := h.sz
  have sp : List.range (m + 1) = List.range q ++ q :: (List.range' (q + 1) (m - q)) := by
    rw [List.range_eq_range', show m + 1 = q + (1 + (m - q)) by omega, ← List.range'_append_1, ← List.range'_append_1, List.range_eq_range']
    simp
  have ne : ∀ j, j ≠ q → (ow.setIfInBounds q (some k)).getD j none = ow.getD j none := fun j hj => by
    simp only [Array.getD_eq_getD_getElem?]
    rw [Array.getElem?_setIfInBounds_ne (fun z => hj z.symm)]
  have same : (ow.setIfInBounds q (some k)).getD q none = some k := by
    simp only [Array.getD_eq_getD_getElem?]
    rw [Array.getElem?_setIfInBounds_self_of_lt hlt]
    rfl
  have a : occ m (ow.setIfInBounds q (some k)) = (List.range q).filterMap (fun j => ow.getD j none) ++ k :: (List.range' (q + 1) (m - q)).filterMap (fun j => ow.getD j none) := by
    unfold occ
    rw [sp, List.filterMap_append, List.filterMap_cons_some (f := fun j => (ow.setIfInBounds q (some k)).getD j none) same]
    congr 1
    · exact fm_congr fun j hj => ne j (by have := List.mem_range.mp hj; omega)
    · congr 1
      exact fm_congr fun j hj => ne j (by have := List.mem_range'_1.mp hj; omega)
  have b : occ m ow = (List.range q).filterMap (fun j => ow.getD j none) ++ (List.range' (q + 1) (m - q)).filterMap (fun j => ow.getD j none) := by
    unfold occ
    rw [sp, List.filterMap_append, List.filterMap_cons_none (f := fun j => ow.getD j none) hn]
  rw [a, List.range_succ]
  have p := h.pm
  rw [b] at p
  exact (List.perm_middle.trans (p.cons k)).trans (List.perm_append_singleton _ _).symm
def layF (m : Nat) (acc : Option (Array (Option Nat) × Nat)) (h : Int) : Option (Array (Option Nat) × Nat) := do
  let (owner, k) ← acc
  let j ← SetTable.layClean.free m owner (SetTable.turns m) (SetTable.bits h % (m + 1)) (SetTable.bits h)
  pure (owner.setIfInBounds j (some k), k + 1)
theorem bits_lt' (h : Int) : SetTable.bits h < 2 ^ 64 := bits_lt h
theorem lay_fold {m : Nat} (hm : MOk m) : ∀ (hs : List Int) (ow : Array (Option Nat)) (k : Nat), OwI m ow k → k + hs.length ≤ m + 1 → ∃ ow', hs.foldl (layF m) (some (ow, k)) = some (ow', k + hs.length) ∧ OwI m ow' (k + hs.length)
  | [], ow, k, h, _ => ⟨ow, rfl, h⟩
  | x :: hs, ow, k, h, hl => by
    rw [List.length_cons] at hl
    obtain ⟨j, hj, hf⟩ := h.has (by omega)
    obtain ⟨q, e, hq⟩ := free_ok hf (SetTable.turns m) (SetTable.bits x % (m + 1)) (SetTable.bits x) (itr_meets hm (Nat.le_of_lt_succ (Nat.mod_lt _ (Nat.succ_pos _))) (bits_lt' x) hj)
    obtain ⟨ow', e2, h2⟩ := lay_fold hm hs _ (k + 1) (h.put hq) (by omega)
    refine ⟨ow', ?_, ?_⟩
    · rw [List.foldl_cons, List.length_cons, show k + (hs.length + 1) = k + 1 + hs.length by omega, ← e2]
      congr 1
      show (do
        let j ← SetTable.layClean.free m ow (SetTable.turns m) (SetTable.bits x % (m + 1)) (SetTable.bits x)
        pure (ow.setIfInBounds j (some k), k + 1)) = _
      rw [e]
      rfl
    · rw [List.length_cons, show k + (hs.length + 1) = k + 1 + hs.length by omega]
      exact h2
theorem lay_ok {m : Nat} (hm : MOk m) (hs : Array Int) (hl : hs.size ≤ m + 1) : ∃ ow, SetTable.layClean m hs = some ow ∧ OwI m ow hs.size := by
  have h0 : OwI m (Array.replicate (m + 1) none) 0 := by
    refine ⟨by simp, ?_⟩
    have : occ m (Array.replicate (m + 1) none) = [] := by
      unfold occ
      rw [List.filterMap_eq_nil_iff]
      intro j hj
      simp only [Array.getD_eq_getD_getElem?, Array.getElem?_replicate]
      split <;> rfl
    rw [this]
    exact List.Perm.refl _
  obtain ⟨ow, e, h⟩ := lay_fold hm hs.toList _ 0 h0 (by rw [Array.length_toList]; omega)
  rw [Nat.zero_add, Array.length_toList] at h
  refine ⟨ow, ?_, h⟩
  have : SetTable.layClean m hs = (hs.toList.foldl (layF m) (some (Array.replicate (m + 1) none, 0))).map (·.1) := by
    unfold SetTable.layClean
    rw [← Array.foldl_toList]
    rfl
  rw [this, e]
  rfl
theorem laid_ok {m fi mv : Nat} {ld pl : Bool} (hm : MOk m) (hs : Array Int) (hl : hs.size ≤ m) : ∃ t order, SetTable.laid m fi mv ld pl hs = some (t, order) ∧ t.mask = m ∧ t.led = ld ∧ t.dummies = #[] ∧ t.place.size = hs.size ∧ Ris t.place.toList ∧ order.toList.Perm (List.range hs.size) := by
  obtain ⟨ow, e, h⟩ := lay_ok hm hs (by omega)
  refine ⟨_, _, by unfold SetTable.laid; rw [e]; rfl, rfl, rfl, rfl, ?_, ?_, ?_⟩
  · have e2 : (((List.range (m + 1)).filterMap fun j => (ow.getD j none).map (j, ·)).map (·.2)) = occ m ow := by
      unfold occ
      rw [List.map_filterMap]
      congr 1
      funext j
      cases ow.getD j none <;> rfl
    have l2 := h.pm.length_eq
    rw [← e2, List.length_range] at l2
    simpa using l2
  · show (((List.range (m + 1)).filterMap fun j => (ow.getD j none).map (j, ·)).map (·.1)).Pairwise (· < ·)
    have e3 : (((List.range (m + 1)).filterMap fun j => (ow.getD j none).map (j, ·)).map (·.1)) = (List.range (m + 1)).filter fun j => (ow.getD j none).isSome := by
      rw [List.map_filterMap, ← List.filterMap_eq_filter]
      congr 1
      funext j
      simp only [Option.guard]
      have any : ∀ z : Option Nat, Option.map (fun x : Nat × Nat => x.1) (Option.map (fun x => (j, x)) z) = if z.isSome = true then some j else none := fun z => by cases z <;> rfl
      rw [any]
    rw [e3]
    exact List.pairwise_lt_range.filter _
  · have e2 : (((List.range (m + 1)).filterMap fun j => (ow.getD j none).map (j, ·)).map (·.2)) = occ m ow := by
      unfold occ
      rw [List.map_filterMap]
      congr 1
      funext j
      cases ow.getD j none <;> rfl
    show (((List.range (m + 1)).filterMap fun j => (ow.getD j none).map (j, ·)).map (·.2)).toArray.toList.Perm _
    rw [e2]
    exact h.pm
end RC

namespace RC
open PySem PySem.Spec PyProof.Rows L2
/-! ### sets of numbers and texts that can be walked -/
def kyM : Value → Key
  | .int i _ => .inl i
  | .str x _ => .inr x
  | _ => .inl 0
theorem kyM_of {k : Key} {v : Value} (h : keyIs k v = true) : kyM v = k := by
  rcases keyIs_shape h with ⟨i, t, rfl, rfl⟩ | ⟨x, t, rfl, rfl⟩ <;> rfl
theorem scan_of {k : Key} {v : Value} (h : keyIs k v = true) : v.scannable = true := by
  rcases keyIs_shape h with ⟨i, t, rfl, rfl⟩ | ⟨x, t, rfl, rfl⟩ <;> rfl
def GdM (w : World) (e : Int × Value) : Prop := keyIs (kyM e.2) e.2 = true ∧ e.1 = keyH w (kyM e.2)
def kys (es : Array (Int × Value)) : List Key := es.toList.map fun e => kyM e.2
/-- the set at a: its keys in the order of its table -/
def SM (w : World) (h : Heap) (a : Addr) (L : List Key) : Prop :=
  ∃ o es ep t, h.get? a = some o ∧ o.ExactSet ∧ o.data = .set es ep t ∧ (∀ e ∈ es.toList, GdM w e) ∧ kys es = L ∧ L.Nodup ∧ es.size < scanBound ∧ t.fits es.size = true ∧ Ris t.place.toList ∧ (w.params.followText "set-order" = true ∨ t.led = true)
section
variable {P : Program} {w : World} {h h' : Heap} {a : Addr} {L : List Key}
theorem SM.keep (R : SM w h a L) (k : ∀ o, h.get? a = some o → h'.get? a = some o) : SM w h' a L := by
  obtain ⟨o, es, ep, t, ho, r⟩ := R
  exact ⟨o, es, ep, t, k o ho, r⟩
theorem gd_elems {l : List (Int × Value)} (g : ∀ e ∈ l, GdM w e) : ElemsOf (mixKind P w) l := fun e he => ⟨⟨kyM e.2, (g e he).1, (g e he).2⟩, scan_of (g e he).1⟩
theorem gd_mem {l : List (Int × Value)} (g : ∀ e ∈ l, GdM w e) (k : Key) : k ∈ l.map (fun e => kyM e.2) ↔ ∃ e ∈ l, (mixKind P w).is k e.2 = true := by
  rw [List.mem_map]
  constructor
  · rintro ⟨e, he, rfl⟩
    exact ⟨e, he, (g e he).1⟩
  · rintro ⟨e, he, q⟩
    exact ⟨e, he, kyM_of q⟩
theorem kys_len (es : Array (Int × Value)) : (kys es).length = es.size := by simp [kys]
end
section
variable {P : Program} {w : World} {A : Around} {E : Value → Shared → Prop} {s : Shared} {a : Addr} {L : List Key}
/-- behind the laying of one more -/
theorem sm_tail {g : Bool → Sem Unit} (hg : ∀ (b : Bool) (s₁ : Shared) (R' : Unit → Shared → Prop), R' () s₁ → wpAny (model P w) A (g b) R' E s₁) {o : Obj} {es0 : Array (Int × Value)} {ep : Nat} {t0 : SetTable} (ho : s.heap.get? a = some o) (hx : o.ExactSet) (hd : o.data = .set es0 ep t0)
    {es : Array (Int × Value)} {t : SetTable} (gd : ∀ e ∈ es.toList, GdM w e) (nd : (kys es).Nodup) (hb : es.size < scanBound) (hf : t.fits es.size = true) (hr : Ris t.place.toList) (hl : w.params.followText "set-order" = true ∨ t.led = true) {wd : Bool} {R : Option Bool → Shared → Prop}
    (hR : ∀ h' L', Heap.SameBut a s.heap h' → SM w h' a L' → L'.Perm (kys es) → R (some true) { s with heap := h' }) :
    wpAny (model P w) A (do
        storeSet a es t
        if (!wd && t.tooFull) = true then do
            g (relayAll t es (SetTable.grown es.size)).2.2
            storeSet a (relayAll t es (SetTable.grown es.size)).1 (relayAll t es (SetTable.grown es.size)).2.1
            pure (some true)
          else pure (some true)) R E s := by
  refine wpAny_bind (wpAny_storeSet_of ho hd ?_ (fits_of_scanBound hb))
  have o1 := store_at (es' := es) (t' := t) ho hd
  have b1 := Heap.SameBut.update s.heap a (Obj.putSet es t)
  split
  · have p2 := relayAll_perm t es (SetTable.grown es.size)
    have f2 := relayAll_fits t es (SetTable.grown es.size)
    have r2 := relayAll_ris t es (SetTable.grown es.size)
    have l2 := relayAll_led t es (SetTable.grown es.size)
    generalize relayAll t es (SetTable.grown es.size) = Y at p2 f2 r2 l2 ⊢
    obtain ⟨es2, t2, gv⟩ := Y
    dsimp only at p2 f2 r2 l2 ⊢
    have z2 : es2.size = es.size := by rw [← Array.length_toList, p2.length_eq, Array.length_toList]
    have hb2 : es2.size < scanBound := by omega
    have pk : (kys es2).Perm (kys es) := p2.map _
    refine wpAny_bind (hg _ _ _ ?_)
    refine wpAny_bind (wpAny_storeSet_of o1 rfl ?_ (fits_of_scanBound hb2))
    have o2 := store_at (es' := es2) (t' := t2) o1 rfl
    refine wpAny_pure (hR _ (kys es2) (b1.trans (Heap.SameBut.update _ a _)) ?_ pk)
    exact ⟨_, es2, _, t2, o2, hx, rfl, fun e he => gd e (p2.mem_iff.mp he), rfl, pk.nodup_iff.mpr nd, hb2, f2, r2, hl.imp id fun z => l2.trans z⟩
  · exact wpAny_pure (hR _ (kys es) b1 ⟨_, es, _, t, o1, hx, rfl, gd, rfl, nd, hb, hf, hr, hl⟩ (List.Perm.refl _))
theorem sm_add {k : Key} {x : Value} {Q : Bool → Shared → Prop} (R : SM w s.heap a L) (hk : keyIs k x = true) (room : L.length + 1 < scanBound)
    (hQ : ∀ h' L' b, Heap.SameBut a s.heap h' → SM w h' a L' → (k ∈ L ∧ L'.Perm L) ∨ (k ∉ L ∧ L'.Perm (k :: L)) → Q b { s with heap := h' }) : wpAny (model P w) A (setAddHashed a x (keyH w k)) Q E s := by
  obtain ⟨o, es, ep, t, ho, hx, hd, gd, rfl, nd, hb, hf, hr, hl⟩ := R
  have hsc := scan_of hk
  have hel : ElemsOf (mixKind P w) es.toList := gd_elems gd
  unfold setAddHashed setAddHashedIn
  refine wpAny_holding (wpAny_bind (wpAny_setState_of ho hd hf ?_))
  dsimp only
  rw [byScan_of hsc hb hel]
  simp only [↓reduceIte]
  unfold setAddByScan
  refine wpAny_bind ?_
  refine wpAny_bind (wpAny_rule ?_)
  refine wpAny_bind (wpAny_setScan_of (knd := mixKind P w) (k := k) hk ho hd hf hel ?_)
  cases hi : List.findIdx? (fun e => (mixKind P w).is k e.2) es.toList with
  | some j =>
    dsimp only
    obtain ⟨hj, pj, _⟩ := List.findIdx?_eq_some_iff_getElem.mp hi
    have hm : k ∈ kys es := (gd_mem (P := P) gd k).2 ⟨es.toList[j], List.getElem_mem hj, pj⟩
    refine wpAny_pure (wpAny_pure ?_)
    exact hQ s.heap (kys es) _ (Heap.SameBut.refl a s.heap) ⟨o, es, ep, t, ho, hx, hd, gd, rfl, nd, hb, hf, hr, hl⟩ (.inl ⟨hm, List.Perm.refl _⟩)
  | none =>
    dsimp only
    have hm : k ∉ kys es := fun z => by
      obtain ⟨e, he, q⟩ := (gd_mem (P := P) gd k).1 z
      have c := List.findIdx?_eq_none_iff.mp hi e he
      rw [q] at c
      cases c
    have gv : ∀ (b : Bool) {s₁ : Shared} {R' : Unit → Shared → Prop}, R' () s₁ → wpAny (model P w) A (match b with | true => rule "set.scan.the-table-gave-way" | false => pure ()) R' E s₁ := fun b s₁ R' q => by
      cases b
      · exact wpAny_pure q
      · exact wpAny_rule q
    have pm := layNew_perm t es (keyH w k) x
    have f1 := layNew_fits t es (keyH w k) x
    have r1 := layNew_ris t es (keyH w k) x hr
    have l1 := layNew_led t es (keyH w k) x
    generalize layNew t es (keyH w k) x = Z at pm f1 r1 l1 ⊢
    obtain ⟨es1, t1, wd, gave⟩ := Z
    dsimp only at pm f1 r1 l1 ⊢
    rw [Array.toList_push] at pm
    have pc : es1.toList.Perm ((keyH w k, x) :: es.toList) := pm.trans (List.perm_append_singleton _ _)
    have pk : (kys es1).Perm (k :: kys es) := by
      have := pc.map fun e => kyM e.2
      rw [List.map_cons, kyM_of hk] at this
      exact this
    have gd1 : ∀ e ∈ es1.toList, GdM w e := fun e he => by
      rcases List.mem_cons.mp (pc.mem_iff.mp he) with z | z
      · rw [z]
        refine ⟨?_, ?_⟩
        · show keyIs (kyM x) x = true
          rw [kyM_of hk]
          exact hk
        · show keyH w k = keyH w (kyM x)
          rw [kyM_of hk]
      · exact gd e z
    have nd1 : (kys es1).Nodup := pk.nodup_iff.mpr (List.nodup_cons.mpr ⟨hm, nd⟩)
    have sz1 : es1.size < scanBound := by
      have e1 := pk.length_eq
      rw [kys_len, List.length_cons] at e1
      omega
    have ld1 : w.params.followText "set-order" = true ∨ t1.led = true := hl.imp id fun z => l1.trans z
    have fin : ∀ h' L', Heap.SameBut a s.heap h' → SM w h' a L' → L'.Perm (kys es1) → Q true { s with heap := h' } := fun h' L' sb r pl => hQ h' L' true sb r (.inr ⟨hm, pl.trans pk⟩)
    refine wpAny_bind (gv _ ?_)
    split
    · refine wpAny_bind ?_
      rw [hashByValue_scannable 8 hsc]
      refine wpAny_pure ?_
      refine sm_tail ?_ ho hx hd gd1 nd1 sz1 ?_ ?_ ?_ ?_
      · intro b s₁ R' q
        cases b
        · exact wpAny_pure q
        · exact wpAny_rule q
      · first | (split <;> first | exact f1 | exact SetTable.fits_plain_off f1) | exact f1
      · first | (split <;> exact r1) | exact r1
      · first | (split <;> exact ld1) | exact ld1
      · exact fun h' L' sb r pl => wpAny_pure (fin h' L' sb r pl)
    · refine wpAny_bind (wpAny_pure ?_)
      simp only [↓reduceIte]
      refine sm_tail ?_ ho hx hd gd1 nd1 sz1 f1 r1 ld1 ?_
      · intro b s₁ R' q
        cases b
        · exact wpAny_pure q
        · exact wpAny_rule q
      · exact fun h' L' sb r pl => wpAny_pure (fin h' L' sb r pl)
end
end RC

namespace RC
open PySem PySem.Spec PyProof.Rows L2
/-- the set at a, its table told -/
structure SX (w : World) (h : Heap) (a : Addr) (es : Array (Int × Value)) (ep : Nat) (t : SetTable) : Prop where
  ob : ∃ o, h.get? a = some o ∧ o.ExactSet ∧ o.data = .set es ep t
  gd : ∀ e ∈ es.toList, GdM w e
  nd : (kys es).Nodup
  sz : es.size < scanBound
  ft : t.fits es.size = true
  rs : Ris t.place.toList
  ld : w.params.followText "set-order" = true ∨ t.led = true
theorem SX.sm {w : World} {h : Heap} {a : Addr} {es : Array (Int × Value)} {ep : Nat} {t : SetTable} (R : SX w h a es ep t) : SM w h a (kys es) := by
  obtain ⟨o, a1, a2, a3⟩ := R.ob
  exact ⟨o, es, ep, t, a1, a2, a3, R.gd, rfl, R.nd, R.sz, R.ft, R.rs, R.ld⟩
theorem SM.sx {w : World} {h : Heap} {a : Addr} {L : List Key} (R : SM w h a L) : ∃ es ep t, SX w h a es ep t ∧ kys es = L := by
  obtain ⟨o, es, ep, t, a1, a2, a3, a4, a5, a6, a7, a8, a9, a10⟩ := R
  exact ⟨es, ep, t, ⟨⟨o, a1, a2, a3⟩, a4, by rw [a5]; exact a6, a7, a8, a9, a10⟩, a5⟩
theorem SX.keep {w : World} {h h' : Heap} {a : Addr} {es : Array (Int × Value)} {ep : Nat} {t : SetTable} (R : SX w h a es ep t) (k : ∀ o, h.get? a = some o → h'.get? a = some o) : SX w h' a es ep t := by
  obtain ⟨o, a1, a2, a3⟩ := R.ob
  exact ⟨⟨o, k o a1, a2, a3⟩, R.gd, R.nd, R.sz, R.ft, R.rs, R.ld⟩
theorem mem_kys {es : Array (Int × Value)} {k : Key} : k ∈ kys es ↔ ∃ e ∈ es.toList, kyM e.2 = k := List.mem_map
theorem fit_of {t : SetTable} {n : Nat} (h1 : t.place.size = n) (h2 : t.dummies = #[]) (h3 : n ≤ t.mask) : t.fits n = true := by
  unfold SetTable.fits SetTable.fill
  rw [h2, Bool.and_eq_true, beq_iff_eq, decide_eq_true_eq]
  exact ⟨h1, by show t.place.size + 0 ≤ t.mask; omega⟩
theorem order_perm {es : Array (Int × Value)} {order : Array Nat} (h : order.toList.Perm (List.range es.size)) : (order.filterMap (es[·]?)).toList.Perm es.toList := by
  rw [Array.toList_filterMap]
  have p := h.filterMap fun i => es[i]?
  have e : (List.range es.size).filterMap (fun i => es[i]?) = es.toList := by
    have : ∀ n, n ≤ es.size → (List.range n).filterMap (fun i => es[i]?) = es.toList.take n := by
      intro n
      induction n with
      | zero => intro _; simp
      | succ n ih =>
        intro hn
        rw [List.range_succ, List.filterMap_append, ih (by omega)]
        have hl : n < es.size := by omega
        have g : es[n]? = some es[n] := Array.getElem?_eq_getElem hl
        rw [List.filterMap_cons_some (f := fun i => es[i]?) g, List.filterMap_nil, List.take_succ]
        simp [hl]
    have q := this es.size (Nat.le_refl _)
    rw [← Array.length_toList, List.take_length] at q
    rw [← Array.length_toList]
    exact q
  rw [e] at p
  exact p
section
variable {P : Program} {w : World} {A : Around} {E : Value → Shared → Prop} {s : Shared} {a : Addr} {es : Array (Int × Value)} {ep : Nat} {t : SetTable}
theorem sx_relay {wanted : Nat} {Q : Unit → Shared → Prop} (R : SX w s.heap a es ep t) (hw : wanted < 256) (hl : es.size < SetTable.sizeAbove wanted)
    (hQ : ∀ h' es' ep' t', Heap.SameBut a s.heap h' → SX w h' a es' ep' t' → es'.toList.Perm es.toList → t'.mask = SetTable.sizeAbove wanted - 1 → t'.dummies = #[] → Q () { s with heap := h' }) : wpAny (model P w) A (setRelay a wanted) Q E s := by
  obtain ⟨mk, _, ub⟩ := mok_size hw
  obtain ⟨o, ho, hx, hd⟩ := R.ob
  obtain ⟨t', order, e, em, el, ed, es1, er, eo⟩ := laid_ok (fi := t.finger) (mv := t.movedTo (SetTable.sizeAbove wanted - 1)) (ld := t.led) (pl := t.plain) mk (es.map (·.1)) (by rw [Array.size_map]; omega)
  rw [Array.size_map] at es1 eo
  have pm := order_perm eo
  have sz : (order.filterMap (es[·]?)).size = es.size := by rw [← Array.length_toList, pm.length_eq, Array.length_toList]
  have e' : t.relaid (es.map (·.1)) wanted = some (t', order) := e
  rw [setRelay_eq]
  refine wpAny_bind (wpAny_setState_of ho hd R.ft ?_)
  dsimp only
  refine wp_if_neg (by rw [sizeLine_eq]; omega) ?_
  try refine wpAny_bind (wpAny_pure ?_)
  rw [e']
  dsimp only
  refine wpAny_bind ?_
  refine wp_if_neg (by rw [sz]; simp) ?_
  try refine wpAny_bind (wpAny_pure ?_)
  refine wpAny_pure ?_
  dsimp only
  have hsz := R.sz
  have hb : (order.filterMap (es[·]?)).size < scanBound := by omega
  refine wpAny_storeSet_of ho hd ?_ (fits_of_scanBound hb)
  have pk : (kys (order.filterMap (es[·]?))).Perm (kys es) := pm.map _
  refine hQ _ _ (ep + 1) t' (Heap.SameBut.update ..) ⟨⟨_, store_at ho hd, ⟨hx.1, hx.2.1, hx.2.2⟩, rfl⟩, fun x hx => R.gd x (pm.mem_iff.mp hx), pk.nodup_iff.mpr R.nd, hb, ?_, er, by rw [el]; exact R.ld⟩ pm em ed
  exact fit_of (by rw [es1, sz]) ed (by rw [sz, em]; omega)
theorem sx_room {more : Nat} {Q : Unit → Shared → Prop} (R : SX w s.heap a es ep t) (hw : es.size + more < 128)
    (hQ : ∀ h' es' ep' t', Heap.SameBut a s.heap h' → SX w h' a es' ep' t' → es'.toList.Perm es.toList → (t' = t ∧ (t.fill + more) * 5 < t.mask * 3) ∨ (MOk t'.mask ∧ es.size + more ≤ t'.mask ∧ t'.dummies = #[]) → Q () { s with heap := h' }) : wpAny (model P w) A (setRoomFor a more) Q E s := by
  obtain ⟨o, ho, hx, hd⟩ := R.ob
  have ft := R.ft
  unfold SetTable.fits at ft
  rw [Bool.and_eq_true, beq_iff_eq] at ft
  unfold setRoomFor
  refine wpAny_bind (wpAny_setState_of ho hd R.ft ?_)
  dsimp only
  unfold SetTable.roomFor
  split
  · rename_i wanted z
    split at z
    · have z : (t.place.size + more) * 2 = wanted := Option.some.inj z
      have hw2 : wanted < 256 := by omega
      have sa := (mok_size hw2)
      refine sx_relay R hw2 (by omega) fun h' es' ep' t' a1 a2 a3 a4 a5 => hQ h' es' ep' t' a1 a2 a3 (.inr ⟨by rw [a4]; exact sa.1, by rw [a4]; omega, a5⟩)
    · cases z
  · rename_i z
    split at z
    · exact absurd rfl (z _)
    · rename_i y
      exact wpAny_pure (hQ s.heap es ep t (Heap.SameBut.refl a s.heap) R (List.Perm.refl _) (.inl ⟨rfl, by omega⟩))
end
theorem setMerge_eq (s o : Addr) (each : Sem Unit) : setMerge s o each = (do
    if s == o then return
    let (eo, epoch, to) ← setState o
    if eo.isEmpty then return
    setRoomFor s eo.size
    let (_, _, ts) ← setState s
    match ts.road to with
    | .slotForSlot => storeSet s eo { to with finger := ts.finger, led := ts.led && to.led, moves := ts.moves, plain := ts.plain && to.plain }
    | .clean =>
      let (es, t) ← (do
        let some (t, order) := SetTable.laid ts.mask ts.finger ts.moves (led := ts.led && to.led) (plain := ts.plain && to.plain) (eo.map (·.1)) | unsupported "internal:set-table-without-room"
        let es' := order.filterMap (eo[·]?)
        if es'.size != eo.size then unsupported "internal:set-table-lost-an-element"
        pure (es', t) : Sem (Array (Int × Value) × SetTable))
      storeSet s es t
    | .oneByOne =>
      for (h, x) in ← setWalkUnseen o [s] (some s) do
        let _ ← holding [x] (setAddHashed s x h)
        each
        if (← setState o).2.1 != epoch then unsupported "set.changed-during-merge") := by rfl
section
variable {P : Program} {w : World} {A : Around} {E : Value → Shared → Prop} {s : Shared} {a b : Addr} {es eo : Array (Int × Value)} {ep eq : Nat} {t to : SetTable}
theorem led_and {x y : Bool} (h1 : w.params.followText "set-order" = true ∨ x = true) (h2 : w.params.followText "set-order" = true ∨ y = true) : w.params.followText "set-order" = true ∨ (x && y) = true := by
  rcases h1 with h | h
  · exact .inl h
  · rcases h2 with g | g
    · exact .inl g
    · exact .inr (by rw [h, g]; rfl)
theorem scan_not_ref {w : World} {e : Int × Value} (h : GdM w e) : ∀ p, e.2 ≠ .ref p := by
  intro p z
  have := h.1
  rw [z] at this
  rcases keyIs_shape this with ⟨i, t, _, e⟩ | ⟨i, t, _, e⟩ <;> cases e
/-- one set's members, whatever road is taken into a set of none -/
theorem merge_new {each : Sem Unit} {Q : Unit → Shared → Prop} (R : SX w s.heap a #[] ep t) (hf : MOk t.mask ∧ t.dummies = #[]) (O : SX w s.heap b eo eq to) (hab : a ≠ b) (hn : eo.size < 128)
    (hQ : ∀ h' es' ep' t', Heap.SameBut a s.heap h' → SX w h' a es' ep' t' → es'.toList.Perm eo.toList → (eo.size = 0 → t' = t) → Q () { s with heap := h' }) : wpAny (model P w) A (setMerge a b each) Q E s := by
  obtain ⟨o, ho, hx, hd⟩ := O.ob
  rw [setMerge_eq]
  refine wp_if_neg (by simpa using hab) ?_
  try refine wpAny_bind (wpAny_pure ?_)
  refine wpAny_bind (wpAny_setState_of ho hd O.ft ?_)
  dsimp only
  by_cases he : eo.isEmpty = true
  · refine wp_if_pos he ?_
    refine wpAny_pure (hQ s.heap #[] ep t (Heap.SameBut.refl a s.heap) R ?_ fun _ => rfl)
    rw [Array.isEmpty_iff.mp he]
  · refine wp_if_neg he ?_
    try refine wpAny_bind (wpAny_pure ?_)
    have he2 : eo.size ≠ 0 := fun z => he (by simp [Array.isEmpty, z])
    refine wpAny_bind (sx_room R (by simpa using hn) fun h1 es1 ep1 t1 b1 R1 p1 c1 => ?_)
    have e1 : es1 = #[] := by
      have := p1.length_eq
      simp at this
      exact this
    subst e1
    have fit1 := R1.ft
    unfold SetTable.fits at fit1
    rw [Bool.and_eq_true, beq_iff_eq] at fit1
    have m1 : MOk t1.mask ∧ eo.size ≤ t1.mask ∧ t1.dummies = #[] := by
      rcases c1 with ⟨rfl, c⟩ | c
      · exact ⟨hf.1, by omega, hf.2⟩
      · simpa using c
    obtain ⟨o1, ho1, hx1, hd1⟩ := R1.ob
    refine wpAny_bind (wpAny_setState_of ho1 hd1 R1.ft ?_)
    dsimp only
    have fl : t1.fill = 0 := by
      unfold SetTable.fill
      rw [m1.2.2]
      have := fit1.1
      simpa using this
    have oft := O.ft
    have osz := O.sz
    have sb2 : ∀ es' t', Heap.SameBut a s.heap (h1.update a (Obj.putSet es' t')) := fun es' t' => b1.trans (Heap.SameBut.update ..)
    unfold SetTable.road
    rw [if_neg (by rw [fl]; decide)]
    split
    · rename_i z
      split at z
      · refine wpAny_storeSet_of ho1 hd1 ?_ (fits_of_scanBound osz)
        refine hQ _ eo (ep1 + 1) _ (sb2 _ _) ⟨⟨_, store_at ho1 hd1, ⟨hx1.1, hx1.2.1, hx1.2.2⟩, rfl⟩, O.gd, O.nd, osz, oft, O.rs, led_and R1.ld O.ld⟩ (List.Perm.refl _) fun z => absurd z he2
      · cases z
    · obtain ⟨t', order, e, em, el, ed, es2, er, eor⟩ := laid_ok (fi := t1.finger) (mv := t1.moves) (ld := t1.led && to.led) (pl := t1.plain && to.plain) m1.1 (eo.map (·.1)) (by rw [Array.size_map]; exact m1.2.1)
      rw [Array.size_map] at es2 eor
      have pm := order_perm eor
      have sz : (order.filterMap (eo[·]?)).size = eo.size := by rw [← Array.length_toList, pm.length_eq, Array.length_toList]
      rw [e]
      dsimp only
      refine wpAny_bind ?_
      refine wp_if_neg (by rw [sz]; simp) ?_
      try refine wpAny_bind (wpAny_pure ?_)
      refine wpAny_pure ?_
      dsimp only
      have hb : (order.filterMap (eo[·]?)).size < scanBound := by omega
      refine wpAny_storeSet_of ho1 hd1 ?_ (fits_of_scanBound hb)
      have pk : (kys (order.filterMap (eo[·]?))).Perm (kys eo) := pm.map _
      refine hQ _ _ (ep1 + 1) t' (sb2 _ _) ⟨⟨_, store_at ho1 hd1, ⟨hx1.1, hx1.2.1, hx1.2.2⟩, rfl⟩, fun x hx => O.gd x (pm.mem_iff.mp hx), pk.nodup_iff.mpr O.nd, hb, ?_, er, by rw [el]; exact led_and R1.ld O.ld⟩ pm fun z => absurd z he2
      exact fit_of (by rw [es2, sz]) ed (by rw [sz, em]; exact m1.2.1)
    · rename_i z
      split at z <;> cases z
end
end RC

namespace RC
open PySem PySem.Spec PyProof.Rows L2
theorem nodup_le {α : Type} : ∀ {l m : List α}, l.Nodup → (∀ x ∈ l, x ∈ m) → l.length ≤ m.length
  | [], m, _, _ => Nat.zero_le _
  | x :: l, m, nd, h => by
    obtain ⟨n1, n2⟩ := List.nodup_cons.mp nd
    obtain ⟨a, b, rfl⟩ := List.append_of_mem (h x List.mem_cons_self)
    have := nodup_le (m := a ++ b) n2 fun y hy => by
      have := h y (List.mem_cons_of_mem _ hy)
      rcases List.mem_append.mp this with z | z
      · exact List.mem_append_left _ z
      · rcases List.mem_cons.mp z with z | z
        · exact absurd (z ▸ hy) n1
        · exact List.mem_append_right _ z
    rw [List.length_append] at this
    rw [List.length_cons, List.length_append, List.length_cons]
    omega
section
variable {P : Program} {w : World} {A : Around} {E : Value → Shared → Prop} {s : Shared} {a b : Addr} {es eo : Array (Int × Value)} {ep eq : Nat} {t to : SetTable}
/-- the members in some order -/
theorem sx_walk {Q : Array (Int × Value) → Shared → Prop} (O : SX w s.heap b eo eq to) (hQ : ∀ out d, out.toList.Perm eo.toList → Q out { s with drawn := d }) : wpAny (model P w) A (setWalk b) Q E s := by
  obtain ⟨o, ho, hx, hd⟩ := O.ob
  unfold setWalk
  refine wpAny_bind (wpAny_setState_of ho hd O.ft ?_)
  dsimp only
  refine wpAny_bind (wpAny_byText ?_)
  cases hb : w.params.followText "set-order" with
  | true =>
    refine wp_if_pos rfl ?_
    exact wpAny_bind (wpAny_askSetting (wpAny_pure (hQ _ s.drawn (pick_perm _ eo))))
  | false =>
    refine wp_if_neg (by decide) ?_
    try refine wpAny_bind (wpAny_pure ?_)
    have hl : to.led = true := O.ld.resolve_left (by rw [hb]; decide)
    by_cases hc : (!to.plain && decide (eo.size > 1)) = true
    · refine wp_if_pos hc ?_
      refine wpAny_bind (drawOrder_at _ _ _ _ (by rw [Array.length_toList]; exact Nat.le_refl _) fun ys d hp => ?_)
      exact wpAny_pure (hQ _ d (by simpa using hp))
    · refine wp_if_neg hc ?_
      try refine wpAny_bind (wpAny_pure ?_)
      refine wpAny_bind (wpAny_of_eq (a := ()) ?_ ?_)
      · show (if (!to.led && decide (eo.size > 1)) = true then unsupported "set:maker-not-led" else pure ()) = pure ()
        rw [hl]
        rfl
      · exact wpAny_pure (hQ eo s.drawn (List.Perm.refl _))
theorem sx_quiet {Q : Bool → Shared → Prop} (O : SX w s.heap b eo eq to) (R : SX w s.heap a es ep t) (h : Q true s) : wpAny (model P w) A (setsQuiet [b, a]) Q E s := by
  unfold setsQuiet
  refine wpAny_bind (wpAny_forIn_list _ (fun rest r s' => r.1 = none ∧ s' = s ∧ ∀ c ∈ rest, ∃ xs q u, SX w s.heap c xs q u) _ ?_ ?_ _ _ ⟨rfl, rfl, ?_⟩)
  · rintro c rest r s' ⟨hr, rfl, hc⟩
    obtain ⟨xs, q, u, S⟩ := hc c List.mem_cons_self
    obtain ⟨o, ho, hx, hd⟩ := S.ob
    refine wpAny_bind (wpAny_setEntries_of ho hd S.ft ?_)
    refine wpAny_bind (wpAny_forIn_array' _ (fun rest2 r2 s2 => r2.1 = none ∧ s2 = s' ∧ ∀ e ∈ rest2, GdM w e) _ ?_ ?_ xs _ ⟨rfl, rfl, S.gd⟩)
    · rintro ⟨hh, x⟩ rest2 r2 s2 ⟨hr2, rfl, hg⟩
      have nr := scan_not_ref (hg _ List.mem_cons_self)
      dsimp only
      split
      · rename_i p
        exact absurd rfl (nr p)
      · exact wpAny_pure ⟨rfl, rfl, fun e he => hg e (List.mem_cons_of_mem _ he)⟩
    · rintro ⟨r1, r2⟩ s2 ⟨hr2, rfl, _⟩
      simp only at hr2
      subst hr2
      exact wpAny_pure ⟨rfl, rfl, fun c hc' => hc c (List.mem_cons_of_mem _ hc')⟩
  · rintro ⟨r1, r2⟩ s' ⟨hr, rfl, _⟩
    simp only at hr
    subst hr
    exact wpAny_pure h
  · intro c hc
    simp only [List.mem_cons, List.not_mem_nil, or_false] at hc
    rcases hc with rfl | rfl
    · exact ⟨_, _, _, O⟩
    · exact ⟨_, _, _, R⟩
theorem sx_unseen {Q : Array (Int × Value) → Shared → Prop} (O : SX w s.heap b eo eq to) (R : SX w s.heap a es ep t) (hab : a ≠ b)
    (hQ : ∀ out h' d ep' t', out.toList.Perm eo.toList → Heap.SameBut a s.heap h' → SX w h' a es ep' t' → Q out { s with heap := h', drawn := d }) : wpAny (model P w) A (setWalkUnseen b [a] (some a)) Q E s := by
  obtain ⟨o, ho, hx, hd⟩ := O.ob
  obtain ⟨o2, ho2, hx2, hd2⟩ := R.ob
  have base : ∀ out d, out.toList.Perm eo.toList → Q out { s with drawn := d } := fun out d hp => hQ out s.heap d ep t hp (Heap.SameBut.refl a s.heap) R
  unfold setWalkUnseen
  refine wpAny_bind (wpAny_setState_of ho hd O.ft ?_)
  dsimp only
  refine wpAny_bind (wpAny_byText ?_)
  by_cases hc : (w.params.followText "set-order" || to.led && to.plain || decide (eo.size ≤ 1)) = true
  · refine wp_if_pos hc ?_
    exact sx_walk O base
  · refine wp_if_neg hc ?_
    try refine wpAny_bind (wpAny_pure ?_)
    have hb : w.params.followText "set-order" = false := by
      cases q : w.params.followText "set-order" with
      | false => rfl
      | true => rw [q] at hc; exact absurd rfl hc
    have l1 : t.led = true := R.ld.resolve_left (by rw [hb]; decide)
    have l2 : to.led = true := O.ld.resolve_left (by rw [hb]; decide)
    refine wpAny_bind (sx_quiet O R ?_)
    refine wp_if_neg (by decide) ?_
    try refine wpAny_bind (wpAny_pure ?_)
    refine wpAny_bind (wpAny_rule ?_)
    refine wpAny_bind (wpAny_setState_of ho2 hd2 R.ft ?_)
    dsimp only
    split
    · refine wpAny_bind (wpAny_storeSet_of ho2 hd2 ?_ (fits_of_scanBound R.sz))
      refine wpAny_pure ?_
      refine hQ eo _ s.drawn (ep + 1) _ (List.Perm.refl _) (Heap.SameBut.update s.heap a _) ⟨⟨_, store_at ho2 hd2, ⟨hx2.1, hx2.2.1, hx2.2.2⟩, rfl⟩, R.gd, R.nd, R.sz, R.ft, R.rs, .inr ?_⟩
      show (t.led && to.led) = true
      rw [l1, l2]
      rfl
    · first | exact wpAny_bind (wpAny_pure (wpAny_pure (base eo s.drawn (List.Perm.refl _)))) | exact wpAny_pure (base eo s.drawn (List.Perm.refl _))
/-- what the set at a has behind some more keys -/
structure Got (L0 : List Key) (ks L : List Key) : Prop where
  nd : L.Nodup
  mem : ∀ k, k ∈ L ↔ k ∈ L0 ∨ k ∈ ks
theorem Got.nil {L0 : List Key} (h : L0.Nodup) : Got L0 [] L0 := ⟨h, fun k => by simp⟩
theorem Got.add {L0 ks L L' : List Key} {k : Key} (g : Got L0 ks L) (nd : L'.Nodup) (h : (k ∈ L ∧ L'.Perm L) ∨ (k ∉ L ∧ L'.Perm (k :: L))) : Got L0 (ks ++ [k]) L' := by
  refine ⟨nd, fun j => ?_⟩
  rcases h with ⟨h1, h2⟩ | ⟨h1, h2⟩
  · rw [h2.mem_iff, g.mem j]
    constructor
    · rintro (z | z)
      · exact .inl z
      · exact .inr (List.mem_append_left _ z)
    · rintro (z | z)
      · exact .inl z
      · rcases List.mem_append.mp z with z | z
        · exact .inr z
        · have : j = k := by simpa using z
          rw [this]
          exact (g.mem k).mp h1
  · rw [h2.mem_iff, List.mem_cons, g.mem j]
    simp only [List.mem_append, List.mem_cons, List.not_mem_nil, or_false]
    constructor
    · rintro (z | z | z)
      · exact .inr (.inr z)
      · exact .inl z
      · exact .inr (.inl z)
    · rintro (z | z | z)
      · exact .inr (.inl z)
      · exact .inr (.inr z)
      · exact .inl z
theorem Got.len {L0 ks L : List Key} (g : Got L0 ks L) : L.length ≤ L0.length + ks.length := by
  have := nodup_le g.nd fun k hk => List.mem_append.mpr ((g.mem k).mp hk)
  rwa [List.length_append] at this
/-- a set's members put into another one, one by one -/
theorem merge_old {each : Sem Unit} {Q : Unit → Shared → Prop} (R : SX w s.heap a es ep t) (O : SX w s.heap b eo eq to) (hab : a ≠ b) (hz : es.size ≠ 0) (hn : es.size + eo.size < 128)
    (hE : ∀ (s' : Shared) (R' : Unit → Shared → Prop), SX w s'.heap b eo eq to → R' () s' → wpAny (model P w) A each R' E s')
    (hQ : ∀ h' d L', Heap.SameBut a s.heap h' → SM w h' a L' → Got (kys es) (kys eo) L' → Q () { s with heap := h', drawn := d }) : wpAny (model P w) A (setMerge a b each) Q E s := by
  obtain ⟨o, ho, hx, hd⟩ := O.ob
  rw [setMerge_eq]
  refine wp_if_neg (by simpa using hab) ?_
  try refine wpAny_bind (wpAny_pure ?_)
  refine wpAny_bind (wpAny_setState_of ho hd O.ft ?_)
  dsimp only
  by_cases he : eo.isEmpty = true
  · refine wp_if_pos he ?_
    refine wpAny_pure (hQ s.heap s.drawn (kys es) (Heap.SameBut.refl a s.heap) R.sm ?_)
    rw [Array.isEmpty_iff.mp he]
    exact Got.nil R.nd
  · refine wp_if_neg he ?_
    try refine wpAny_bind (wpAny_pure ?_)
    refine wpAny_bind (sx_room R hn fun h1 es1 ep1 t1 b1 R1 p1 c1 => ?_)
    have z1 : es1.size = es.size := by rw [← Array.length_toList, p1.length_eq, Array.length_toList]
    obtain ⟨o1, ho1, hx1, hd1⟩ := R1.ob
    have O1 : SX w h1 b eo eq to := O.keep fun u e => b1.extBut b u (fun z => hab z.symm) e
    refine wpAny_bind (wpAny_setState_of ho1 hd1 R1.ft ?_)
    dsimp only
    have fit1 := R1.ft
    unfold SetTable.fits at fit1
    rw [Bool.and_eq_true, beq_iff_eq] at fit1
    have fl : (t1.fill != 0) = true := by
      unfold SetTable.fill
      have := fit1.1
      refine bne_iff_ne.mpr ?_
      omega
    unfold SetTable.road
    rw [if_pos fl]
    dsimp only
    refine wpAny_bind (sx_unseen (s := { s with heap := h1 }) O1 R1 hab fun out h2 d ep2 t2 po b2 R2 => ?_)
    have O2 : SX w h2 b eo eq to := O1.keep fun u e => b2.extBut b u (fun z => hab z.symm) e
    have ke : (kys es1).Perm (kys es) := p1.map _
    refine wpAny_bind (wpAny_forIn_array' _ (fun rest _ s' => ∃ h' L' dn, s' = { s with heap := h', drawn := d } ∧ Heap.SameBut a s.heap h' ∧ SM w h' a L' ∧ SX w h' b eo eq to ∧ out.toList = dn ++ rest ∧ Got (kys es) (dn.map fun e => kyM e.2) L') _ ?_ ?_ out _ ⟨h2, kys es1, [], rfl, b1.trans b2, R2.sm, O2, rfl, ⟨R1.nd, fun k => by rw [ke.mem_iff]; simp⟩⟩)
    · rintro ⟨hh, x⟩ rest _ s' ⟨h', L', dn, rfl, sb, Rm, Om, eo', g⟩
      have gm : GdM w (hh, x) := O.gd _ (po.mem_iff.mp (by rw [eo']; simp))
      have gl := g.len
      have dl : (dn.map fun e => kyM e.2).length ≤ eo.size := by
        have := congrArg List.length eo'
        rw [po.length_eq, List.length_append, Array.length_toList] at this
        rw [List.length_map]
        omega
      rw [kys_len] at gl
      dsimp only
      have hh2 : hh = keyH w (kyM x) := gm.2
      rw [hh2]
      refine wpAny_bind (wpAny_holding (sm_add (s := { s with heap := h', drawn := d }) Rm gm.1 (by unfold scanBound; omega) fun h3 L3 bb sb3 Rm3 p3 => ?_))
      have Om3 : SX w h3 b eo eq to := Om.keep fun u e => sb3.extBut b u (fun z => hab z.symm) e
      refine wpAny_bind (hE _ _ Om3 ?_)
      obtain ⟨o3, ho3, hx3, hd3⟩ := Om3.ob
      refine wpAny_bind (wpAny_setState_of ho3 hd3 Om3.ft ?_)
      dsimp only
      refine wp_if_neg (by simp) ?_
      try refine wpAny_bind (wpAny_pure ?_)
      refine wpAny_pure ⟨h3, L3, dn ++ [(keyH w (kyM x), x)], rfl, sb.trans sb3, Rm3, Om3, by rw [eo', hh2]; simp, ?_⟩
      rw [List.map_append]
      obtain ⟨_, _, _, R3, e3⟩ := Rm3.sx
      exact g.add (by rw [← e3]; exact R3.nd) p3
    · rintro _ s' ⟨h', L', dn, rfl, sb, Rm, Om, eo', g⟩
      refine wpAny_pure (hQ h' d L' sb Rm ⟨g.nd, fun k => ?_⟩)
      rw [g.mem k]
      have : (dn.map fun e => kyM e.2).Perm (kys eo) := by
        rw [List.append_nil] at eo'
        rw [← eo']
        exact po.map _
      rw [this.mem_iff]
end
end RC

namespace RC
open PySem PySem.Spec PyProof.Rows L2
/-- a set of none, new -/
abbrev newS (w : World) : Obj := { cls := .type "set", dict := none, data := .set #[] 0 (.fresh 0 0 (!w.params.followText "set-order")) }
theorem newS_sx {w : World} {h : Heap} {a : Addr} (ho : h.get? a = some (newS w)) : SX w h a #[] 0 (.fresh 0 0 (!w.params.followText "set-order")) := by
  refine ⟨⟨_, ho, ⟨rfl, rfl, rfl⟩, rfl⟩, (fun e he => by simp at he), by simp [kys], by decide, rfl, List.Pairwise.nil, ?_⟩
  show _ ∨ (!w.params.followText "set-order") = true
  cases w.params.followText "set-order"
  · exact .inr rfl
  · exact .inl rfl
section
variable {P : Program} {w : World} {A : Around} {E : Value → Shared → Prop} {s : Shared}
/-- set(x), by the filling of a set of none -/
theorem call_set_by {x : Value} {Φ : List Key → Prop} {Q : Value → Shared → Prop} (hh : A.handled = none)
    (hu : ∀ (A' : Around) (R' : Unit → Shared → Prop), A'.handled = none → (∀ h' tk d L, SM w h' s.heap.objs.size L → (∀ b o, s.heap.get? b = some o → h'.get? b = some o) → Φ L → R' () { s with heap := h', toks := tk, drawn := d }) →
      wpAny (model P w) A' (Builtin.Frozenset.updateFrom "set.__init__" s.heap.objs.size x) R' E { s with heap := s.heap.push (newS w) })
    (h : ∀ h' tk d L, SM w h' s.heap.objs.size L → (∀ b o, s.heap.get? b = some o → h'.get? b = some o) → Φ L → Q (.ref s.heap.objs.size) { s with heap := h', toks := tk, drawn := d }) :
    wpAny (model P w) A (call (.type "set") [x]) Q E s := by
  obtain ⟨c0, l0, m0⟩ := F.called_set.mro
  have md := F.called_set.made
  have sb := F.called_set.sub
  refine wpAny_call (codeAny_of_tree ?_)
  show wpAny _ _ (callAny (.type "set") _) _ _ _
  refine wpAny_pure ⟨Code.quiet_builtin _ (by decide +kernel), codeAny_builtin F.entry_type_call ?_⟩
  rw [Around.under_plain (weight_type_call_type "set" [x] []) rfl]
  have n1 := F.called_set.notType
  have n2 := F.called_set.canCreate
  have n3 := F.typeCall_set_1 x
  repeat (any_goals (first | assumption | wp_step))
  refine codeAny_mono (code_set_led1 x (E := E) (Q₁ := fun v s1 => v = .ref s.heap.objs.size ∧ s1 = { s with heap := s.heap.push (newS w) }) ⟨rfl, rfl⟩) fun r s1 hr => ?_
  cases r with
  | error e => exact hr
  | ok fl =>
    cases fl with
    | ret v =>
      obtain ⟨rfl, rfl⟩ := hr
      have g0 : (s.heap.push (newS w)).get? s.heap.objs.size = some (newS w) := Heap.get?_push_size _ rfl
      have ty : Shared.TypeIs { s with heap := s.heap.push (newS w) } (.ref s.heap.objs.size) "set" := ⟨_, g0, rfl⟩
      have li := F.called_set.init.lookup
      have bi := F.called_set.init.bind (.ref s.heap.objs.size)
      repeat (any_goals (first | assumption | wp_step))
      refine codeAny_mono (codeAny_call_builtin (R := wants (fun r s2 => r = .none ∧ ∃ h' tk d L, s2 = { s with heap := h', toks := tk, drawn := d } ∧ SM w h' s.heap.objs.size L ∧ (∀ b o, s.heap.get? b = some o → h'.get? b = some o) ∧ Φ L) E) F.called_set.init.plain F.entry_set_init (check_set_init_1 ty ?_)) fun r2 s2 hr2 => ?_
      · have hub := hu
        unfold Builtin.«set.__init__» noKeywords
        generalize hUF : Builtin.Frozenset.updateFrom = UF at hub ⊢
        wp_walk
        exact hub _ _ (by simp [hh]) fun h' tk d L q1 q2 q3 => wpAny_pure ⟨rfl, h', tk, d, L, rfl, q1, q2, q3⟩
      · cases r2 with
        | error e => exact hr2
        | ok f2 =>
          cases f2 with
          | ret r =>
            obtain ⟨rfl, h', tk, d, L, rfl, q1, q2, q3⟩ := hr2
            repeat (any_goals (first | assumption | wp_step))
            exact h _ _ _ _ q1 q2 q3
          | _ => exact hr2.elim
    | _ => exact hr.elim
theorem sub_dict_set : isSubtype (.type "dict") (.type "set") = pure false := by rw [isSubtype_type]; kernel_rfl
theorem sub_dict_fset : isSubtype (.type "dict") (.type "frozenset") = pure false := by rw [isSubtype_type]; kernel_rfl
variable {a d : Addr} {es : Array (Int × Value)} {ep : Nat} {t : SetTable} {vs : List (Key × Value)}
theorem upd_dict {nm : String} {Q : Unit → Shared → Prop} (R : SX w s.heap a #[] ep t) (hd : s.heap.DictOf (mixKind P w) d vs) (hs : (d == sysModules) = false) (had : a ≠ d) (hn : vs.length < 128)
    (hQ : ∀ h' L, Heap.SameBut a s.heap h' → SM w h' a L → Got [] (vs.map (·.1)) L → Q () { s with heap := h' }) : wpAny (model P w) A (Builtin.Frozenset.updateFrom nm a (.ref d)) Q E s := by
  obtain ⟨o, de, dp, ho, hx, hdt, hk, hp, _⟩ := id hd
  have ty : s.TypeIs (.ref d) "dict" := ⟨o, ho, hx.1⟩
  have hl : vs.length = de.size := by
    have := hp.length
    rw [Array.length_toList] at this
    omega
  unfold Builtin.Frozenset.updateFrom Builtin.Frozenset.isAnySet
  refine wpAny_bind ?_
  unfold orM
  refine wpAny_bind (wpAny_isInstance (T := "dict") (b := false) ty sub_dict_set ?_)
  refine wpAny_isInstance (T := "dict") (b := false) ty sub_dict_fset ?_
  refine wp_if_neg (by decide) ?_
  refine wpAny_bind (wpAny_typeOf ty ?_)
  refine wp_if_pos (by decide) ?_
  refine wpAny_bind (wpAny_rule ?_)
  refine wpAny_bind (wpAny_pure ?_)
  dsimp only
  refine wp_if_neg (by rw [hs]; decide) ?_
  refine wpAny_bind (wpAny_dictEpoch ho hdt ?_)
  refine wpAny_bind (wpAny_dictEntries ho hdt ?_)
  refine wpAny_bind (sx_room R (by simp; omega) fun h1 es1 ep1 t1 b1 R1 p1 c1 => ?_)
  have e1 : es1 = #[] := by
    have := p1.length_eq
    simp at this
    exact this
  subst e1
  have ho1 : h1.get? d = some o := b1.extBut d o (fun z => had z.symm) ho
  refine wpAny_bind (wpAny_dictEntries (s := { s with heap := h1 }) ho1 hdt ?_)
  have ve : ∀ i (hi : i < de.size), ∃ k, keyIs k de[i].key = true ∧ de[i].hash = keyH w k ∧ (vs.map (·.1))[i]? = some k := by
    intro i hi
    obtain ⟨k, h1, h2⟩ := hk de[i] (Array.getElem_mem hi)
    refine ⟨k, h1, h2, ?_⟩
    have hi2 : i < vs.length := by omega
    obtain ⟨h3, _⟩ := hp.get? (i := i) (e := de[i]) (k := vs[i].1) (v := vs[i].2) (by rw [Array.getElem?_toList]; exact Array.getElem?_eq_getElem hi) (by rw [List.getElem?_eq_getElem hi2])
    have e4 : k = vs[i].1 := by
      rw [← kyM_of h1, ← kyM_of h3]
    rw [List.getElem?_map, List.getElem?_eq_getElem hi2, e4]
    rfl
  refine wpAny_bind (PySem.SeqAt.wpAny_forIn_span 0 de.size _ (fun i _ s' => ∃ h' L, s' = { s with heap := h' } ∧ Heap.SameBut a s.heap h' ∧ SM w h' a L ∧ Got [] ((vs.map (·.1)).take i) L) _ ?_ ?_ _ ⟨h1, [], rfl, b1, R1.sm, Got.nil List.nodup_nil⟩)
  · rintro i _ s' _ hi ⟨h', L, rfl, sb, Rm, g⟩
    have ho2 : h'.get? d = some o := sb.extBut d o (fun z => had z.symm) ho
    refine wpAny_bind (wpAny_dictEntries (s := { s with heap := h' }) ho2 hdt ?_)
    rw [Array.getElem?_eq_getElem hi]
    dsimp only
    obtain ⟨k, k1, k2, k3⟩ := ve i hi
    rw [k2]
    have gl := g.len
    rw [List.length_take, List.length_nil] at gl
    refine wpAny_bind (wpAny_holding (sm_add (s := { s with heap := h' }) Rm k1 (by unfold scanBound; omega) fun h3 L3 bb sb3 Rm3 p3 => ?_))
    have ho3 : h3.get? d = some o := sb3.extBut d o (fun z => had z.symm) ho2
    refine wpAny_bind (wpAny_dictEpoch (s := { s with heap := h3 }) ho3 hdt ?_)
    refine wp_if_neg (by simp) ?_
    refine wpAny_pure ⟨h3, L3, rfl, sb.trans sb3, Rm3, ?_⟩
    obtain ⟨_, _, _, R3, e3⟩ := Rm3.sx
    rw [List.take_add_one, k3]
    exact g.add (by rw [← e3]; exact R3.nd) p3
  · rintro _ s' ⟨h', L, rfl, sb, Rm, g⟩
    refine wpAny_pure (hQ h' L sb Rm ?_)
    rw [List.take_of_length_le (by rw [List.length_map]; omega)] at g
    exact g
end
end RC

namespace RC
open PySem PySem.Spec PyProof.Rows L2
/-! ### the union of two sets -/
theorem entry_set_or : entryFor table "set.__or__" = some Builtin.«frozenset.__or__» := entryFor_alias (id' := "frozenset.__or__") (by kernel_rfl) rfl (by decide +kernel) (by kernel_rfl)
section
variable {P : Program} {w : World} {A : Around} {E : Value → Shared → Prop} {s : Shared} {a b : Addr} {ea eb : Array (Int × Value)} {pa pb : Nat} {ta tb : SetTable}
theorem sx_isSet {Q : Bool → Shared → Prop} (R : SX w s.heap a ea pa ta) (h : Q true s) : wpAny (model P w) A (Builtin.Frozenset.isAnySet (.ref a)) Q E s := by
  obtain ⟨o, ho, hx, hd⟩ := R.ob
  unfold Builtin.Frozenset.isAnySet orM
  exact wpAny_bind (wpAny_isInstance (T := "set") (b := true) ⟨o, ho, hx.1⟩ sub_set_self (wpAny_pure h))
theorem sx_copy {Q : Value → Shared → Prop} (R : SX w s.heap a ea pa ta) (hn : ea.size < 128)
    (hQ : ∀ h' es ep t, SX w h' s.heap.objs.size es ep t → es.toList.Perm ea.toList → (ea.size = 0 → MOk t.mask ∧ t.dummies = #[]) → (∀ c o, s.heap.get? c = some o → h'.get? c = some o) → Q (.ref s.heap.objs.size) { s with heap := h' }) : wpAny (model P w) A (Builtin.Frozenset.copyOf a) Q E s := by
  obtain ⟨o, ho, hx, hd⟩ := R.ob
  unfold Builtin.Frozenset.copyOf Builtin.Frozenset.baseOf
  refine wpAny_bind ?_
  refine wpAny_bind (wpAny_isInstance (T := "set") (b := true) ⟨o, ho, hx.1⟩ sub_set_self (wpAny_pure ?_))
  unfold newSet
  refine wpAny_bind ?_
  refine wpAny_bind (wpAny_byText ?_)
  dsimp only
  simp only [newObj]
  refine wpAny_bind (wpAny_alloc (wpAny_pure ?_))
  refine wpAny_bind (wpAny_pure ?_)
  have g0 : (s.heap.push (newS w)).get? s.heap.objs.size = some (newS w) := Heap.get?_push_size _ rfl
  have R1 : SX w (s.heap.push (newS w)) a ea pa ta := R.keep fun u e => Heap.get?_push_of_some _ e
  have ne : s.heap.objs.size ≠ a := Nat.ne_of_gt (Heap.lt_size ho)
  refine wpAny_bind (merge_new (s := { s with heap := s.heap.push (newS w) }) (newS_sx g0) ⟨mok7, rfl⟩ R1 ne hn fun h' es ep t sb S pm z0 => ?_)
  refine wpAny_pure (hQ h' es ep t S pm (fun z => by rw [z0 z]; exact ⟨mok7, rfl⟩) fun c u e => ?_)
  have hl := Heap.lt_size e
  exact sb.extBut c u (Nat.ne_of_lt hl) (Heap.get?_push_of_some _ e)
theorem or_run {Q : Value → Shared → Prop} (RA : SX w s.heap a ea pa ta) (RB : SX w s.heap b eb pb tb) (hab : a ≠ b) (hn : ea.size + eb.size < 128) (hu : A.units < cLine)
    (hQ : ∀ h' d L, SM w h' s.heap.objs.size L → (∀ c o, s.heap.get? c = some o → h'.get? c = some o) → Got (kys ea) (kys eb) L → Q (.ref s.heap.objs.size) { s with heap := h', drawn := d }) : wpAny (model P w) A (binaryOp .BitOr (.ref a) (.ref b)) Q E s := by
  obtain ⟨oa, hoa, hxa, hda⟩ := RA.ob
  obtain ⟨ob, hob, hxb, hdb⟩ := RB.ob
  have tya : s.TypeIs (.ref a) "set" := ⟨oa, hoa, hxa.1⟩
  have tyb : s.TypeIs (.ref b) "set" := ⟨ob, hob, hxb.1⟩
  refine wpAny_binaryOp_same (op := .BitOr) tya tyb F.fills_set_or F.slot_set_or (wpAny_call_entry F.slot_set_or tya entry_set_or ?_ (F.args_set_or_2 _ _))
  unfold Builtin.«frozenset.__or__»
  show wpAny _ _ (Builtin.Frozenset.slot1 "__or__" ⟨[.ref a, .ref b], []⟩ >>= _) _ _ s
  refine wpAny_bind (m := Builtin.Frozenset.slot1 "__or__" _) (wpAny_of_eq (a := (Value.ref a, Value.ref b)) (by rfl) ?_)
  show wpAny _ _ ((Builtin.Frozenset.isAnySet (.ref a) <&&> Builtin.Frozenset.isAnySet (.ref b)) >>= _) _ _ s
  refine wpAny_bind ?_
  unfold andM
  refine wpAny_bind (sx_isSet RA ?_)
  refine sx_isSet RB ?_
  refine wp_if_neg (by decide) ?_
  refine wpAny_bind (wpAny_pure ?_)
  refine wpAny_bind ?_
  show wpAny _ _ (Builtin.Frozenset.copyOf a >>= _) _ _ s
  refine wpAny_bind (sx_copy RA (by omega) fun h1 es ep t S pm zf k1 => ?_)
  have hN : s.heap.objs.size ≠ b := Nat.ne_of_gt (Heap.lt_size hob)
  have RB1 : SX w h1 b eb pb tb := RB.keep fun u e => k1 b u e
  have zs : es.size = ea.size := by rw [← Array.length_toList, pm.length_eq, Array.length_toList]
  have ke : (kys es).Perm (kys ea) := pm.map _
  refine wp_if_pos (by simpa using fun z => hab z.symm) ?_
  refine wpAny_bind (wpAny_pure ?_)
  refine wpAny_bind (wpAny_holding ?_)
  unfold Builtin.Frozenset.updateFrom
  refine wpAny_bind (sx_isSet (s := { s with heap := h1 }) RB1 ?_)
  refine wp_if_pos rfl ?_
  refine wpAny_bind (wpAny_pure ?_)
  unfold Builtin.Frozenset.merge
  obtain ⟨ob1, hob1, hxb1, hdb1⟩ := RB1.ob
  refine wpAny_bind (wpAny_setEpoch_of (s := { s with heap := h1 }) hob1 hdb1 RB1.ft ?_)
  by_cases hz : es.size = 0
  · have e0 : es = #[] := Array.eq_empty_of_size_eq_zero hz
    subst e0
    refine merge_new (s := { s with heap := h1 }) S (zf (by omega)) RB1 hN (by omega) fun h2 es2 ep2 t2 sb S2 p2 _ => ?_
    have k2 : (kys es2).Perm (kys eb) := p2.map _
    have e1 : kys ea = [] := by
      have := ke.length_eq
      exact List.eq_nil_of_length_eq_zero (by rw [← this]; rfl)
    refine wpAny_pure (wpAny_pure ⟨_, rfl, (fun z => nomatch z), hQ h2 s.drawn _ S2.sm (fun c u e => ?_) ⟨S2.nd, fun k => ?_⟩⟩)
    · have hl := Heap.lt_size e
      exact sb.extBut c u (Nat.ne_of_lt hl) (k1 c u e)
    · rw [k2.mem_iff, e1]
      simp
  · refine merge_old (s := { s with heap := h1 }) S RB1 hN hz (by omega) ?_ ?_
    · intro s' R' RB' q
      obtain ⟨o2, ho2, hx2, hd2⟩ := RB'.ob
      unfold Builtin.Frozenset.unchanged
      refine wpAny_bind (wpAny_setEpoch_of ho2 hd2 RB'.ft ?_)
      exact wp_if_neg (by simp) (wpAny_pure q)
    · intro h2 d L sb SM2 g
      refine wpAny_pure (wpAny_pure ⟨_, rfl, (fun z => nomatch z), hQ h2 d L SM2 (fun c u e => ?_) ⟨g.nd, fun k => ?_⟩⟩)
      · have hl := Heap.lt_size e
        exact sb.extBut c u (Nat.ne_of_lt hl) (k1 c u e)
      · rw [g.mem k, ke.mem_iff]
end
end RC

namespace RC
open PySem PySem.Spec PyProof.Rows L2
/-! ### sorted(set) -/
def strOf : Value → Str
  | .str x _ => x
  | _ => Str.empty
theorem strs_of : ∀ (l : List Value), (∀ v ∈ l, ∃ x t, v = Value.str x t) → StrsAre l (l.map strOf)
  | [], _ => .nil
  | v :: l, h => by
    obtain ⟨x, t, rfl⟩ := h v List.mem_cons_self
    exact .cons x t (strs_of l fun u hu => h u (List.mem_cons_of_mem _ hu))
section
variable {P : Program} {w : World} {A : Around} {E : Value → Shared → Prop} {s : Shared} {a : Addr} {es : Array (Int × Value)} {ep : Nat} {t : SetTable}
theorem sx_at (R : SX w s.heap a es ep t) : SetAt s.heap a es ep t := by
  obtain ⟨o, ho, hx, hd⟩ := R.ob
  exact ⟨o, ho, hx.1, hd⟩
theorem sorted_sxS {Q : Value → Shared → Prop} (R : SX w s.heap a es ep t) (hh : A.handled = none) (hs : ∀ k ∈ kys es, ∃ x, k = Sum.inr x)
    (hQ : ∀ s' p (out : Array Value) (c : Nat) (ss : List Str), (∀ b o, s.heap.get? b = some o → s'.heap.get? b = some o) → s'.gens = s.gens → s'.os = s.os → s.heap.objs.size ≤ p →
      s'.heap.get? p = some (seqObj "list" out c) → StrsAre out.toList ss → sortedS ss = true → (ss.map (Sum.inr : Str → Key)).Perm (kys es) → Q (.ref p) s') : wpAny (model P w) A (call (.builtin "sorted") [.ref a]) Q E s := by
  refine Calls.call_function_entry kind_sorted plain_sorted entry_sorted (args_sorted1 _) ?_
  unfold Builtin.«sorted»
  refine wpAny_bind (m := checkCount "sorted" 1 1 _) (wpAny_pure ?_)
  refine wpAny_bind (collect_set (A := A.in1) hh (sx_at R) R.ft R.sz R.rs R.ld fun s1 vs k1 hz g1 o1 pm => ?_)
  have all : ∀ v ∈ vs, ∃ x t, v = Value.str x t := fun v hv => by
    obtain ⟨e, he, rfl⟩ := List.mem_map.mp (pm.mem_iff.mp hv)
    obtain ⟨x, hx⟩ := hs (kyM e.2) (List.mem_map.mpr ⟨e, he, rfl⟩)
    rcases keyIs_shape (R.gd e he).1 with ⟨i, t, q1, q2⟩ | ⟨y, t, q1, q2⟩
    · rw [hx] at q1
      cases q1
    · exact ⟨y, t, q2⟩
  have hS := strs_of vs all
  have ln : vs.length = es.size := by rw [pm.length_eq, List.length_map, Array.length_toList]
  have hL : vs.length ≤ sizeLine := by rw [ln]; exact fits_of_scanBound R.sz
  have kp : ((vs.map strOf).map (Sum.inr : Str → Key)).Perm (kys es) := by
    have e1 : (vs.map strOf).map (Sum.inr : Str → Key) = vs.map kyM := by
      rw [List.map_map]
      refine List.map_congr_left fun v hv => ?_
      obtain ⟨x, t, rfl⟩ := all v hv
      rfl
    rw [e1]
    have := pm.map kyM
    rw [List.map_map] at this
    exact this
  refine wpAny_bind (wpAny_newList ?_ hL)
  have hoL : (s1.heap.push (seqObj "list" vs.toArray 0)).get? s1.heap.objs.size = some (seqObj "list" vs.toArray 0) := Heap.get?_push_size _ rfl
  refine wpAny_bind (wpAny_holding (wpAny_call_entry slot_list_sort ⟨_, hoL, rfl⟩ entry_list_sort (list_sort_treeKAny strKind_oneLt hoL hS.keysOf (fun v₁ v₂ rest e => keyKind_strs (by rw [← e]; exact hS)) hL fun st' a1 a2 => ⟨_, rfl, ?_⟩) (args_list_sort _)))
  obtain ⟨ss, h1, h2, h3⟩ := sorted_out_str hS a1 a2
  obtain ⟨c, hc⟩ := sortedHeap_at (vs := vs) (out := (arrOf st').map (·.2)) hoL
  refine wpAny_pure ⟨_, rfl, hQ _ s1.heap.objs.size _ c ss (fun b u e => ?_) g1 o1 hz hc h1 h3 ((h2.map _).trans kp)⟩
  have q := k1 b u e
  have hlt := Heap.lt_size q
  show (sortedHeap (s1.heap.push (seqObj "list" vs.toArray 0)) s1.heap.objs.size vs _).get? b = some u
  rw [sortedHeap_old (Nat.ne_of_lt hlt) (by rw [size_push']; exact Nat.lt_succ_of_lt hlt)]
  exact Heap.get?_push_of_some _ q
end
/-! ### set(xs), a list of keys -/
theorem KS_snoc {ks : List Key} {i : Nat} {k : Key} (h : ks[i]? = some k) : ks.take (i + 1) = ks.take i ++ [k] := by rw [List.take_add_one, h]; rfl
section
variable {P : Program} {w : World} {A : Around} {E : Value → Shared → Prop} {s : Shared}
theorem upd_loop {I : Addr} {fp wr : List Addr} {G : Array GenState → Array GenState → Prop} {n : Nat} {Pv : Nat → Value → Prop} {St : Nat → Shared → Prop} {R : Result → Shared → Prop} (W : WalksS P w A.in1 I fp wr G n Pv St) (S : Addr) (hS : S ∉ fp) (ks : List Key) (hn : n = ks.length) (hz : n < 4000)
    (hv : ∀ i v, Pv i v → ∃ k, ks[i]? = some k ∧ keyIs k v = true) : ∀ (c i : Nat) (s : Shared), n - i = c → i ≤ n → St i s → (∃ L, SM w s.heap S L ∧ Got [] (ks.take i) L) →
      (∀ s' L, Moved (S :: wr) G s s' → SM w s'.heap S L → Got [] ks L → R (.ok (.ret .none)) s') → codeAny (model P w) A (.builtin "set.update.loop" ⟨[.ref S, .ref I], []⟩) R s := by
  have hSw : S ∉ wr := fun h => hS (W.sub _ h)
  have up : ∀ b ∈ wr, b ∈ S :: wr := fun b hb => List.mem_cons_of_mem _ hb
  intro c
  induction c with
  | zero =>
    intro i s hc hi st ⟨L, RS, g⟩ hR
    obtain rfl : i = n := by omega
    refine codeAny_builtin F.entry_set_update_loop ?_
    rw [Around.under_plainId F.plain_set_update_loop _]
    show wpAny _ A.in1 (pyNext (.ref I) >>= _) _ _ s
    refine wpAny_bind (W.done s _ _ st fun s' mv => ?_)
    show wpAny _ A.in1 (ret Value.none) _ _ s'
    refine wpAny_pure (hR s' L (mv.mono up) (RS.keep fun o e => mv.heap S o hSw e) ?_)
    rw [List.take_of_length_le (by omega)] at g
    exact g
  | succ c ih =>
    intro i s hc hi st ⟨L, RS, g⟩ hR
    have lt : i < n := by omega
    refine codeAny_builtin F.entry_set_update_loop ?_
    rw [Around.under_plainId F.plain_set_update_loop _]
    show wpAny _ A.in1 (pyNext (.ref I) >>= _) _ _ s
    refine wpAny_bind (W.item i s _ _ lt st fun v s' hP st' mv => ?_)
    obtain ⟨k, hk, kv⟩ := hv i v hP
    have RS' : SM w s'.heap S L := RS.keep fun o e => mv.heap S o hSw e
    have gl := g.len
    rw [List.length_take, List.length_nil] at gl
    show wpAny _ A.in1 (holding [v] (setAdd S v) >>= _) _ _ s'
    refine wpAny_bind (wpAny_holding ?_)
    unfold setAdd
    refine wpAny_holding ?_
    refine wpAny_bind ((mixKind P w).pyHash (k := k) kv ?_)
    refine sm_add (s := { s' with toks := s'.toks + 1 }) RS' kv (by unfold scanBound; omega) fun h3 L3 bb sb3 RS3 p3 => ?_
    obtain ⟨_, _, _, R3, e3⟩ := RS3.sx
    refine wpAny_pure ⟨plainId_quiet F.plain_set_update_loop _, ih (i + 1) _ (by omega) lt (W.frame _ s' _ _ st' (Nat.le_add_right _ _) fun b hb o e => ?_) ⟨L3, RS3, ?_⟩ fun s'' L2 mv2 RS2 g2 => ?_⟩
    · rw [sb3.2 b (fun h : b = S => hS (by rw [← h]; exact hb))]
      exact e
    · rw [KS_snoc hk]
      exact g.add (by rw [← e3]; exact R3.nd) p3
    · refine hR s'' L2 (Moved.trans W.gtrans ((mv.mono up).then_heap (Nat.le_add_right _ _) fun b o hb e => ?_) mv2) RS2 g2
      rw [sb3.2 b (fun h : b = S => hb (by rw [h]; exact List.mem_cons_self))]
      exact e
theorem upd_list {l : Addr} {items : Array Value} {ks : List Key} {nm : String} {a : Addr} {ep : Nat} {t : SetTable} {Q : Unit → Shared → Prop} (hh : A.handled = none) (R : SX w s.heap a #[] ep t) (hl : s.heap.IsList l items) (hn : items.size = ks.length) (hz : ks.length < 4000) (hv : ∀ (i : Nat) v, items[i]? = some v → ∃ k, ks[i]? = some k ∧ keyIs k v = true) (hal : a ≠ l)
    (hQ : ∀ h' tk L, SM w h' a L → (∀ b o, b ≠ a → s.heap.get? b = some o → h'.get? b = some o) → Got [] ks L → Q () { s with heap := h', toks := tk }) : wpAny (model P w) A (Builtin.Frozenset.updateFrom nm a (.ref l)) Q E s := by
  obtain ⟨ol, hol, hcl, nl, hdl⟩ := id hl
  have ty : s.TypeIs (.ref l) "list" := ⟨ol, hol, hcl⟩
  unfold Builtin.Frozenset.updateFrom Builtin.Frozenset.isAnySet
  refine wpAny_bind ?_
  unfold orM
  refine wpAny_bind (wpAny_isInstance (T := "list") (b := false) ty F.sub_list_set ?_)
  refine wpAny_isInstance (T := "list") (b := false) ty F.sub_list_frozenset ?_
  refine wp_if_neg (by decide) ?_
  refine wpAny_bind (wpAny_typeOf ty ?_)
  refine wp_if_neg (by decide) ?_
  try refine wpAny_bind (wpAny_pure ?_)
  refine wpAny_bind (wpAny_pyIter_list hl ?_)
  refine wpAny_bind (wpAny_runValue ?_)
  obtain ⟨oa, hoa, _⟩ := R.ob
  have la := Heap.lt_size hoa
  have ll := Heap.lt_size hol
  have nI : l ≠ s.heap.objs.size := Nat.ne_of_lt ll
  have nS : a ∉ [s.heap.objs.size, l] := by
    simp only [List.mem_cons, List.not_mem_nil, or_false, not_or]
    exact ⟨Nat.ne_of_lt la, hal⟩
  refine upd_loop ((Walks.list (A := A.in1) (by simp [hh]) _ l nI items).toS) a nS ks hn (by omega) hv (items.size - 0) 0 _ (by omega) (Nat.zero_le _) ⟨⟨_, Heap.get?_push_size _ rfl, rfl, rfl⟩, hl.push _⟩ ⟨[], R.sm.keep fun o e => Heap.get?_push_of_some _ e, Got.nil List.nodup_nil⟩ ?_
  intro s' L mv RS g
  obtain ⟨h', g', d', tk', os'⟩ := s'
  have eg : g' = s.gens := mv.gens
  have ed : d' = s.drawn := mv.drawn
  have eo : os' = s.os := mv.os
  subst eg ed eo
  refine wpAny_pure (hQ h' tk' L RS (fun b o hb e => ?_) g)
  have hbl := Heap.lt_size e
  exact mv.heap b o (by simp only [List.mem_cons, List.not_mem_nil, or_false, not_or]; exact ⟨hb, Nat.ne_of_lt hbl⟩) (Heap.get?_push_of_some _ e)
end
/-! ### the rules -/
def SetH (w : World) (a : Addr) (L : List Key) : HO := .ext fun h => SM w h a L
theorem setH_new {P : Program} {w : World} {H : Hp} {h : Heap} {a : Addr} {L : List Key} (R : SM w h a L) : ObjOk P w H h a (SetH w a L) := by
  have ⟨o, _, _, _, ho, _⟩ := R
  exact ⟨R, ⟨o, ho⟩, fun h1 h2 p k => SM.keep p k⟩
section
variable {X : Cx}
theorem setH_get {pins : List (Addr × Obj)} {σ : L2.St} {H : Hp} {s : Shared} {a : Addr} {L : List Key} (I : Inv X pins σ H s) (ha : H a = some (SetH X.w a L)) : SM X.w s.heap a L := (I.hok a _ ha).1
/-- set(d) -/
def rSetD (w : World) : List V → Hp → VK → Prop := fun xs H Q => ∃ (d : Addr) (kvs : List (Key × V)), xs = [.ref d] ∧ Rd H d (.dK kvs) ∧ kvs.length < 128 ∧ ∀ p L, H p = none → Got [] (kvs.map (·.1)) L → Q (.ref p) (upd H p (SetH w p L))
theorem cr_setD (hc : X.calm = true) : CallR X (.type "set") (rSetD X.w) := by
  intro pins s σ H xs us Q I r h
  obtain ⟨d, kvs, rfl, hd, hl, q⟩ := h
  rw [Vals.ref1 r]
  obtain ⟨hz0, hm, vs, kv, hD⟩ := dk_rd I.hok hd
  have lv : kvs.length = vs.length := kv.length
  have ek : vs.map (·.1) = kvs.map (·.1) := by
    clear hD hm lv q hl hd r hz0
    induction kv with
    | nil => rfl
    | cons h t ih => rw [List.map_cons, List.map_cons, ih, h.1]
  have hlt : d < s.heap.objs.size := by
    obtain ⟨o, _, _, ho, _⟩ := hD
    exact Heap.lt_size ho
  refine call_set_by (Φ := fun L => Got [] (kvs.map (·.1)) L) (I.ok.hd hc) (fun A' R' ha hR => ?_) fun h' tk dd L S k g => ?_
  · have g0 : (s.heap.push (newS X.w)).get? s.heap.objs.size = some (newS X.w) := Heap.get?_push_size _ rfl
    have hD1 : (s.heap.push (newS X.w)).DictOf (mixKind X.prog X.w) d vs := by
      obtain ⟨o, e, p, ho, rest⟩ := hD
      exact ⟨o, e, p, Heap.get?_push_of_some _ ho, rest⟩
    refine upd_dict (s := { s with heap := s.heap.push (newS X.w) }) (newS_sx g0) hD1 hm (Nat.ne_of_gt hlt) (by omega) fun h' L sb S g => ?_
    refine hR h' s.toks s.drawn L S (fun b o e => ?_) (by rw [← ek]; exact g)
    have hb := Heap.lt_size e
    exact sb.extBut b o (Nat.ne_of_lt hb) (Heap.get?_push_of_some _ e)
  · refine ⟨.ref _, upd H s.heap.objs.size (SetH X.w s.heap.objs.size L), ?_, rfl, q _ L (I.hok.fresh (Nat.le_refl _)) g⟩
    exact I.call (ch := []) (Un.laid k (Nat.le_refl _) (I.hok.fresh (Nat.le_refl _))) (I.hok.laid k (Nat.le_refl _) (setH_new S)) I.bare (fun _ z => nomatch z)
/-- set(xs) -/
def rSetL (K : PySem.W.Frag) (w : World) : List V → Hp → VK → Prop := fun xs H Q => ∃ (l : Addr) (ks : List Key), xs = [.ref l] ∧ SqL K H l (ks.map kV) ∧ ks.length < 4000 ∧ ∀ p L, H p = none → Got [] ks L → Q (.ref p) (upd H p (SetH w p L))
theorem vals_key (P : Program) (w : World) : ∀ {ks : List Key} {us : List Value}, Vals (ks.map kV) us → ∀ (i : Nat) v, us[i]? = some v → ∃ k, ks[i]? = some k ∧ keyIs k v = true
  | [], us, r, i, v, h => by
    cases r
    simp at h
  | k :: ks, us, r, i, v, h => by
    cases r with
    | cons r1 r2 =>
      cases i with
      | zero =>
        cases (Option.some.inj h)
        exact ⟨k, rfl, kV_is (P := P) (w := w) r1⟩
      | succ i => exact vals_key P w r2 i v (by simpa using h)
theorem cr_setL (hc : X.calm = true) : CallR X (.type "set") (rSetL X.K X.w) := by
  intro pins s σ H xs us Q I r h
  obtain ⟨l, ks, rfl, hs, hl, q⟩ := h
  rw [Vals.ref1 r]
  obtain ⟨its, rv, hp, _⟩ := I.list hs
  have hil := hp.isList
  have hlt : l < s.heap.objs.size := by
    obtain ⟨o, ho, _⟩ := hil
    exact Heap.lt_size ho
  refine call_set_by (Φ := fun L => Got [] ks L) (I.ok.hd hc) (fun A' R' ha hR => ?_) fun h' tk dd L S k g => ?_
  · have g0 : (s.heap.push (newS X.w)).get? s.heap.objs.size = some (newS X.w) := Heap.get?_push_size _ rfl
    have ln : its.toArray.size = ks.length := by
      have := rv.length
      rw [List.length_map] at this
      simp [this]
    refine upd_list (s := { s with heap := s.heap.push (newS X.w) }) (ks := ks) ha (newS_sx g0) (hil.push _) ln hl (fun i v hv => vals_key X.prog X.w rv i v (by simpa using hv)) (Nat.ne_of_gt hlt) fun h' tk L S k g => ?_
    refine hR h' tk s.drawn L S (fun b o e => ?_) g
    have hb := Heap.lt_size e
    exact k b o (Nat.ne_of_lt hb) (Heap.get?_push_of_some _ e)
  · refine ⟨.ref _, upd H s.heap.objs.size (SetH X.w s.heap.objs.size L), ?_, rfl, q _ L (I.hok.fresh (Nat.le_refl _)) g⟩
    exact I.call (ch := []) (Un.laid k (Nat.le_refl _) (I.hok.fresh (Nat.le_refl _))) (I.hok.laid k (Nat.le_refl _) (setH_new S)) I.bare (fun _ z => nomatch z)
/-- s | t -/
def rOrS (w : World) : R2 := fun x y H Q => ∃ (a b : Addr) (L1 L2 : List Key), x = .ref a ∧ y = .ref b ∧ a ≠ b ∧ H a = some (SetH w a L1) ∧ H b = some (SetH w b L2) ∧ L1.length + L2.length < 128 ∧ ∀ p L, H p = none → Got L1 L2 L → Q (.ref p) (upd H p (SetH w p L))
theorem op_orS (hu : X.A.units < cLine) : OpR X (binaryOp .BitOr) (rOrS X.w) := by
  intro pins s σ H x y v u Q I rx ry h
  obtain ⟨a, b, L1, L2, rfl, rfl, hab, ha, hb, hl, q⟩ := h
  obtain rfl : v = Value.ref a := rx
  obtain rfl : u = Value.ref b := ry
  obtain ⟨ea, pa, ta, RA, k1⟩ := (setH_get I ha).sx
  obtain ⟨eb, pb, tb, RB, k2⟩ := (setH_get I hb).sx
  have l1 := kys_len ea
  have l2 := kys_len eb
  rw [k1] at l1
  rw [k2] at l2
  refine or_run RA RB hab (by omega) hu fun h' d L S k g => ?_
  rw [k1, k2] at g
  refine ⟨.ref _, upd H s.heap.objs.size (SetH X.w s.heap.objs.size L), ?_, rfl, q _ L (I.hok.fresh (Nat.le_refl _)) g⟩
  exact I.call (ch := []) (Un.laid k (Nat.le_refl _) (I.hok.fresh (Nat.le_refl _))) (I.hok.laid k (Nat.le_refl _) (setH_new S)) I.bare (fun _ z => nomatch z)
/-- sorted(s), texts -/
def rSortMS (w : World) : List V → Hp → VK → Prop := fun vs H Q => ∃ (a : Addr) (L : List Key), vs = [V.ref a] ∧ H a = some (SetH w a L) ∧ (∀ k ∈ L, ∃ x, k = Sum.inr x) ∧
  ∀ (ss : List Str) (p : Addr), sortedS ss = true → (ss.map (Sum.inr : Str → Key)).Perm L → H p = none → Q (.ref p) (upd H p (.lst (ss.map V.str)))
theorem vals_strs : ∀ {us : List Value} {xs : List Str}, StrsAre us xs → Vals (xs.map V.str) us
  | _, _, .nil => .nil
  | _, _, .cons x t h => .cons ⟨t, rfl⟩ (vals_strs h)
theorem cr_sortMS (hc : X.calm = true) : CallR X (.builtin "sorted") (rSortMS X.w) := by
  intro pins s σ H vs us Q I r h
  obtain ⟨a, L, rfl, ha, hs, q⟩ := h
  rw [Vals.ref1 r]
  obtain ⟨es, ep, t, R, ek⟩ := (setH_get I ha).sx
  refine sorted_sxS R (I.ok.hd hc) (by rw [ek]; exact hs) fun s' p out c ss k g o hp hg hi hso hpm => ?_
  have hn : H p = none := I.hok.fresh hp
  rw [ek] at hpm
  have hlen : (ss.map V.str).length ≤ sizeLine := by
    have e1 := hpm.length_eq
    have e2 := kys_len es
    have e3 := fits_of_scanBound R.sz
    rw [ek] at e2
    rw [List.length_map] at e1 ⊢
    omega
  have J : Inv X pins σ (upd H p (.lst (ss.map V.str))) { s with heap := s'.heap, gens := s'.gens, drawn := s'.drawn, toks := s'.toks } :=
    I.call (ch := []) (Un.laid k hp hn) (I.hok.laid k hp ⟨hlen, out.toList, c, vals_strs hi, hg⟩) (by rw [g]; exact I.bare) (fun _ z => nomatch z)
  have e : s' = { s with heap := s'.heap, gens := s'.gens, drawn := s'.drawn, toks := s'.toks } := by
    cases s'
    cases s
    cases o
    rfl
  rw [e]
  exact ⟨.ref p, _, J, rfl, q ss p hso hpm hn⟩
end
end RC

namespace RC
open PySem PySem.Spec PyProof.Rows L2
/-! ### sets within an expression -/
def tW (t : World → TE) : TE := fun σ H Q => ∀ w, t w σ H Q
theorem pe_w {X : Cx} {x : Expr} {t : World → TE} (h : PE X x (t X.w)) : PE X x (tW t) := ⟨fun pins s σ H Q I hw => h.run pins s σ H Q I (hw X.w)⟩
theorem g_w {t : World → TE} {σ : L2.St} {H : Hp} {Q : VK} (h : ∀ w, t w σ H Q) : tW t σ H Q := h
/-- each once, the first one stays -/
def dd {α : Type} [DecidableEq α] : List α → List α
  | [] => []
  | x :: xs => x :: (dd xs).filter fun y => decide (y ≠ x)
theorem dd_mem {α : Type} [DecidableEq α] {x : α} : ∀ {xs : List α}, x ∈ dd xs ↔ x ∈ xs
  | [] => by simp [dd]
  | y :: xs => by
    have ih := dd_mem (x := x) (xs := xs)
    unfold dd
    simp only [List.mem_cons, List.mem_filter, ih, decide_eq_true_eq]
    constructor
    · rintro (h | h)
      · exact .inl h
      · exact .inr h.1
    · rintro (h | h)
      · exact .inl h
      · rcases Classical.em (x = y) with z | z
        · exact .inl z
        · exact .inr ⟨h, z⟩
theorem dd_nd {α : Type} [DecidableEq α] : ∀ xs : List α, (dd xs).Nodup
  | [] => List.nodup_nil
  | x :: xs => by
    unfold dd
    refine List.nodup_cons.mpr ⟨fun h => ?_, (dd_nd xs).sublist List.filter_sublist⟩
    simpa using (List.mem_filter.mp h).2
theorem dd_le {α : Type} [DecidableEq α] (xs : List α) : (dd xs).length ≤ xs.length := nodup_le (dd_nd xs) fun x hx => dd_mem.mp hx
/-- the keys of a set are these -/
structure SIs {κ : Type} (ik : κ → Key) (L : List Key) (xs : List κ) : Prop where
  nd : L.Nodup
  mem : ∀ q, q ∈ L ↔ q ∈ xs.map ik
theorem SIs.len {κ : Type} {ik : κ → Key} {L : List Key} {xs : List κ} (h : SIs ik L xs) : L.length ≤ xs.length := by
  have := nodup_le h.nd fun q hq => (h.mem q).mp hq
  rwa [List.length_map] at this
theorem perm_of {α : Type} {l m : List α} (h1 : l.Nodup) (h2 : m.Nodup) (h : ∀ x, x ∈ l ↔ x ∈ m) : l.Perm m := by
  induction l generalizing m with
  | nil =>
    have : m = [] := List.eq_nil_iff_forall_not_mem.mpr fun x hx => nomatch (h x).mpr hx
    rw [this]
  | cons x l ih =>
    obtain ⟨n1, n2⟩ := List.nodup_cons.mp h1
    obtain ⟨a, b, rfl⟩ := List.append_of_mem ((h x).mp List.mem_cons_self)
    have nd2 : (x :: (a ++ b)).Nodup := List.perm_middle.nodup_iff.mp h2
    obtain ⟨n3, n4⟩ := List.nodup_cons.mp nd2
    refine (List.Perm.cons x (ih n2 n4 fun y => ?_)).trans List.perm_middle.symm
    constructor
    · intro hy
      have := (h y).mp (List.mem_cons_of_mem _ hy)
      rcases List.mem_append.mp this with z | z
      · exact List.mem_append_left _ z
      · rcases List.mem_cons.mp z with z | z
        · exact absurd (z ▸ hy) n1
        · exact List.mem_append_right _ z
    · intro hy
      have : y ∈ a ++ x :: b := by
        rcases List.mem_append.mp hy with z | z
        · exact List.mem_append_left _ z
        · exact List.mem_append_right _ (List.mem_cons_of_mem _ z)
      rcases List.mem_cons.mp ((h y).mpr this) with z | z
      · exact absurd (z ▸ hy) n3
      · exact z
section
variable {K : PySem.W.Frag} {α : Type} {e : α → PyData} {Rs : List Res} {H : Hp} {Q : VK} {v : V} {a b : Addr} {σ : L2.St} {w : World}
theorem v_setD {κ : Type} {ik : κ → Key} {m : List (κ × α)} (D : DVs K Rs H ik e v m) (hz : m.length < 128) (k : ∀ p L H', SIs ik L (ks m) → M (pt p (SetH w p L) :: Rs) H' → Q (.ref p) H') : rSetD w [v] H Q := by
  obtain ⟨p, kvs, F, L, rfl, h, s, mm, t⟩ := D
  refine ⟨p, kvs, rfl, h, by rw [t.len]; exact hz, fun q L' hn g => k q L' _ ⟨g.nd, fun x => ?_⟩ (M.new ⟨F, L, s, mm⟩ hn)⟩
  rw [g.mem x, t.keys]
  simp
theorem v_setL {κ : Type} {sv : κ → V} {ek : κ → PyData} {ik : κ → Key} (f : Fl ek sv) (hk : ∀ q, kV (ik q) = sv q) {xs : List κ} (S : M Rs H) (h : Dq K H v (eL ek xs)) (hz : xs.length < 4000) (k : ∀ p L H', SIs ik L xs → M (pt p (SetH w p L) :: Rs) H' → Q (.ref p) H') : rSetL K w [v] H Q := by
  obtain ⟨p, rfl, hs⟩ := f.lst h
  refine ⟨p, xs.map ik, rfl, ?_, by rw [List.length_map]; exact hz, fun q L hn g => k q L _ ⟨g.nd, fun x => by rw [g.mem x]; simp⟩ (S.new hn)⟩
  have e1 : (xs.map ik).map kV = xs.map sv := by
    rw [List.map_map]
    exact List.map_congr_left fun q _ => hk q
  rw [e1]
  exact hs
theorem M.neq {o o' : HO} (S : M Rs H) (i : Nat) (hi : Rs[i]? = some (pt a o)) (j : Nat) (hj : (Rs.eraseIdx i)[j]? = some (pt b o')) : a ≠ b := by
  have S1 := S.at i hi
  have S2 := S1.at (j + 1) (by simpa using hj)
  obtain ⟨F, L, ⟨l1, l2, rfl, e1, s⟩, mm⟩ := S2
  obtain ⟨l3, l4, rfl, e2, _⟩ := s
  have e1 : l1 = [(b, o')] := e1
  have e2 : l3 = [(a, o)] := e2
  subst e1 e2
  have nd := mm.nd
  simp only [List.map_append, List.map_cons, List.map_nil, List.cons_append, List.nil_append, List.nodup_cons, List.mem_cons, not_or] at nd
  exact fun z => nd.1.1 z.symm
theorem v_orS {κ : Type} {ik : κ → Key} {L1 L2 : List Key} {xs ys : List κ} (S : M (pt b (SetH w b L2) :: pt a (SetH w a L1) :: Rs) H) (h1 : SIs ik L1 xs) (h2 : SIs ik L2 ys) (hz : xs.length + ys.length < 128) (k : ∀ p L H', SIs ik L (xs ++ ys) → M (pt p (SetH w p L) :: Rs) H' → Q (.ref p) H') : rOrS w (.ref a) (.ref b) H Q := by
  have l1 := h1.len
  have l2 := h2.len
  refine ⟨a, b, L1, L2, rfl, rfl, S.neq 1 rfl 0 rfl, S.got 1 rfl, S.got 0 rfl, by omega, fun p L hn g => k p L _ ⟨g.nd, fun q => ?_⟩ (M.sub (.cons 0 rfl (.tl (.tl (.refl _)))) (S.new hn))⟩
  rw [g.mem q, h1.mem q, h2.mem q, List.map_append, List.mem_append]
theorem v_sortMS {L : List Key} {xs : List Str} (S : M (pt a (SetH w a L) :: Rs) H) (h : SIs iS L xs) (k : ∀ q H', M (acR K q ((srtS' (dd xs)).map eS) :: Rs) H' → Q (.ref q) H') : rSortMS w [.ref a] H Q := by
  refine ⟨a, L, rfl, S.got 0 rfl, fun q hq => ?_, fun ss p hs hp hn => ?_⟩
  · obtain ⟨x, _, rfl⟩ := List.mem_map.mp ((h.mem q).mp hq)
    exact ⟨x, rfl⟩
  · have inj : ∀ x y : Str, iS x = iS y → x = y := injS
    have nd1 : ss.Nodup := nd_of_map _ (hp.nodup_iff.mpr h.nd)
    have pm : ss.Perm (dd xs) := perm_of nd1 (dd_nd xs) fun x => by
      rw [dd_mem]
      have e1 : x ∈ ss ↔ iS x ∈ ss.map (Sum.inr : Str → Key) := ⟨fun hx => List.mem_map.mpr ⟨x, hx, rfl⟩, fun hx => by
        obtain ⟨y, hy, ey⟩ := List.mem_map.mp hx
        rw [← inj _ _ ey]
        exact hy⟩
      rw [e1, hp.mem_iff, h.mem]
      constructor
      · intro hx
        obtain ⟨y, hy, ey⟩ := List.mem_map.mp hx
        rw [← inj _ _ ey]
        exact hy
      · exact fun hx => List.mem_map.mpr ⟨x, hx, rfl⟩
    rw [srtS_eq pm hs]
    exact k p _ (M.ownS (M.sub (.cons 0 rfl (.tl (.refl _))) (S.new hn)))
end
end RC

namespace RC
open PySem PySem.Spec PyProof.Rows L2
/-! ### sorted(d.items()): keys are texts, each once -/
def tkey (h : Heap) : Value → Str
  | .ref a => match h.get? a with
    | some o => match o.data with
      | .seq xs _ => match (xs[0]? : Option Value) with
        | some (Value.str y _) => y
        | _ => ""
      | _ => ""
    | none => ""
  | _ => ""
def ltK (h : Heap) (v u : Value) : Bool := ltCps (tkey h v).cps.toList (tkey h u).cps.toList
theorem ltK_swo (h : Heap) : SrtO.Swo (ltK h) := by
  refine ⟨fun x y e => ?_, fun x y z h1 h2 => ?_⟩
  · unfold ltK at *
    cases g : ltCps (tkey h y).cps.toList (tkey h x).cps.toList with
    | false => rfl
    | true =>
      have := ltCps_trans _ _ _ e g
      rw [ltCps_irrefl] at this
      cases this
  · have a : leS (tkey h x) (tkey h y) = true := by
      unfold leS
      rw [show ltCps (tkey h y).cps.toList (tkey h x).cps.toList = false from h1]
      rfl
    have b : leS (tkey h y) (tkey h z) = true := by
      unfold leS
      rw [show ltCps (tkey h z).cps.toList (tkey h y).cps.toList = false from h2]
      rfl
    have c := leS_trans _ _ _ a b
    unfold leS at c
    rw [Bool.not_eq_true'] at c
    exact c
/-- v is a pair of a text and a thing -/
def TxP (h : Heap) (v : Value) (y : Str) (u : Value) : Prop := ∃ a o t n, v = .ref a ∧ h.get? a = some o ∧ o.cls = .type "tuple" ∧ o.data = .seq #[.str y t, u] n
theorem TxP.key {h : Heap} {v : Value} {y : Str} {u : Value} (p : TxP h v y u) : tkey h v = y := by
  obtain ⟨a, o, t, n, rfl, ho, hc, hd⟩ := p
  unfold tkey
  simp only [ho, hd]
  rfl
theorem TxP.keeps {h h' : Heap} {v : Value} {y : Str} {u : Value} (p : TxP h v y u) (k : ∀ b o, v = .ref b → h.get? b = some o → h'.get? b = some o) : TxP h' v y u := by
  obtain ⟨a, o, t, n, rfl, ho, hc, hd⟩ := p
  exact ⟨a, o, t, n, rfl, k _ _ rfl ho, hc, hd⟩
theorem txp_firsts {h : Heap} : ∀ {vs : List Value}, (∀ v ∈ vs, ∃ y u, TxP h v y u) → ∃ fs : List Value, PySem.W.KatTups h vs fs ∧ fs.length = vs.length ∧ ∀ f ∈ fs, ∃ x t, f = Value.str x t
  | [], _ => ⟨[], PySem.W.KatTups.nil, rfl, fun _ hm => by simp at hm⟩
  | v :: vs, hp => by
    obtain ⟨fs, h1, h2, h3⟩ := txp_firsts (vs := vs) fun v' hm => hp v' (List.mem_cons_of_mem _ hm)
    obtain ⟨y, u, a, o, t, n, rfl, ho, hc, hd⟩ := hp v List.mem_cons_self
    refine ⟨.str y t :: fs, PySem.W.KatTups.cons ho hc hd rfl h1, by rw [List.length_cons, List.length_cons, h2], fun f hf => ?_⟩
    rcases List.mem_cons.mp hf with rfl | hf
    · exact ⟨y, t, rfl⟩
    · exact h3 f hf
section
variable {prog : Program} {w : World} {A : Around} {s : Shared}
theorem txp_cmp {h0 : Heap} {vs : List Value} (hp : ∀ v ∈ vs, ∃ y u, TxP s.heap v y u ∧ tkey h0 v = y) (one : ∀ v ∈ vs, ∀ z ∈ vs, tkey h0 v = tkey h0 z → v = z) : SrtO.Cmp prog w A s (tuples' true) (fun p => p.1 ∈ vs) (SrtO.lt2 (ltK h0)) := by
  intro p q hm hm'
  obtain ⟨y, u, h1, e1⟩ := hp _ hm
  obtain ⟨z, v, h2, e2⟩ := hp _ hm'
  show wpAny (model prog w) A (keyLt' (tuples' true) p.1 q.1) (fun r s' => s' = s ∧ r = ltK h0 p.1 q.1) (fun _ _ => False) s
  have el : ltK h0 p.1 q.1 = ltCps y.cps.toList z.cps.toList := by
    unfold ltK
    rw [e1, e2]
  have e12 : y = z → p.1 = q.1 := fun e => one _ hm _ hm' (by rw [e1, e2, e])
  rw [el]
  clear el
  generalize p.1 = pa at *
  generalize q.1 = qa at *
  obtain ⟨a, o, t, n, rfl, ho, hc, hd⟩ := h1
  obtain ⟨a', o', t', n', rfl, ho', hc', hd'⟩ := h2
  refine PySem.W.kat_lt ho hd ho' hd' ?_
  show PySem.W.KatLex prog w A true (decide (2 < 2)) _ [(.str y t, .str z t'), (u, v)] 0 s
  refine PySem.W.kat_cons (SeqAt.EqAt.str_str y t z t' prog w _ _ ?_)
  refine PySem.W.kat_go (fun e => ?_) (fun e => ?_)
  · have ey : y = z := by simpa using e
    have ea : a = a' := Value.ref.inj (e12 ey)
    subst ea
    have eo : o = o' := Option.some.inj (ho.symm.trans ho')
    subst eo
    rw [hd] at hd'
    have ev : u = v := by
      injection hd' with x1 x2
      have := congrArg Array.toList x1
      simp at this
      exact this.2
    subst ev
    refine PySem.W.kat_yes (PySem.W.kat_cons (SeqAt.EqAt.same u prog w _ _ ?_))
    refine PySem.W.kat_go (fun _ => PySem.W.kat_yes (PySem.W.kat_nil ⟨rfl, ?_⟩)) (fun e => absurd e (by simp))
    rw [ey, ltCps_irrefl]
    rfl
  · refine PySem.W.kat_no (oneLt_any_str ⟨rfl, ?_⟩)
    exact (ltCps_eq _ _).symm
theorem txp_sortable {h0 : Heap} {a : Addr} {vs : List Value} (hn : 0 < vs.length) (hp : ∀ v ∈ vs, ∃ y u, TxP s.heap v y u ∧ tkey h0 v = y) (one : ∀ v ∈ vs, ∀ z ∈ vs, tkey h0 v = tkey h0 z → v = z) (ha : Value.ref a ∉ vs) : SrtO.SortableO prog w A s a vs (ltK h0) := by
  intro h' keep
  have hp' : ∀ v ∈ vs, ∃ y u, TxP h' v y u ∧ tkey h0 v = y := fun v hm => by
    obtain ⟨y, u, h1, h2⟩ := hp v hm
    exact ⟨y, u, h1.keeps fun b o e c => keep b o (fun z => ha (by rw [← z, ← e]; exact hm)) c, h2⟩
  obtain ⟨fs, h1, h2, h3⟩ := txp_firsts (h := h') (vs := vs) fun v hm => let ⟨y, u, q, _⟩ := hp' v hm; ⟨y, u, q⟩
  refine ⟨tuples' true, fun Q E hq => ?_, txp_cmp hp' one⟩
  refine PySem.W.kat_kind (T := .type "str") h1 (by omega) (fun f hm => ?_) (by rfl) ?_
  · obtain ⟨x, t, rfl⟩ := h3 f hm
    exact PySem.W.Looks.now
  · have e : (Value.type "str" != Value.type "tuple") = true := by first | decide +kernel | rfl | decide
    rw [e]
    exact hq
end
section
variable {X : Cx}
def rItemsK : V → List V → Hp → VK → Prop := fun x xs H Q => ∃ (a : Addr) (kvs : List (Key × V)), x = .ref a ∧ xs = [] ∧ Rd H a (.dK kvs) ∧ ∀ p, H p = none → Q (.ref p) (upd H p (DX.itemsO p a))
theorem mt_itemsK : MtR X "dict.items" rItemsK := by
  intro pins s σ H x xs v us Q I rx rxs h
  obtain ⟨a, kvs, rfl, rfl, ha, q⟩ := h
  cases rx
  cases rxs
  obtain ⟨_, hd, vs, rv, o, es, ep, ho, hx, hdat, _⟩ := dk_rd I.hok ha
  refine DT.callItems (es := es) (ep := ep) hd ⟨o, ho, hx, hdat⟩ ?_
  have hf : H s.heap.objs.size = none := I.hok.fresh (Nat.le_refl _)
  exact ⟨.ref s.heap.objs.size, upd H s.heap.objs.size (DX.itemsO s.heap.objs.size a), I.laid (t' := s.toks) (fun b u e => Heap.get?_push_of_some _ e) (Nat.le_refl _) (DX.itemsO_ok (Heap.get?_push_size _ rfl)), rfl, q _ hf⟩
abbrev entS (e : Str × V) : Key × V := (Sum.inr e.1, e.2)
def rSortIt : List V → Hp → VK → Prop := fun vs H Q => ∃ (p a : Addr) (kvs : List (Str × V)), vs = [.ref p] ∧ H p = some (DX.itemsO p a) ∧ Rd H a (.dK (kvs.map entS)) ∧
  ∀ (H' : Hp) (l : Addr) (zs : List (Addr × Str × V)), (∀ b o, H b = some o → H' b = some o) → H l = none → (∀ z ∈ zs, H z.1 = none) → l ∉ zs.map (·.1) → (zs.map (·.2)).Perm kvs → (zs.map (·.2.1)).Pairwise (fun a b => leS a b = true) → (kvs.map (·.1)).Nodup →
    H' l = some (.lst (zs.map fun z => V.ref z.1)) → (∀ z ∈ zs, H' z.1 = some (.tup [.str z.2.1, z.2.2])) → Q (.ref l) H'
theorem pairs_at {P : Program} {w : World} : ∀ {es : List DictEntry} {vs : List (Key × Value)} {kvs : List (Str × V)} (j : Nat) {e : DictEntry}, Pairs (mixKind P w) es vs → KV (kvs.map entS) vs → es[j]? = some e → ∃ (q : Str × V) (t : Tok), kvs[j]? = some q ∧ e.key = .str q.1 t ∧ RelV q.2 e.val
  | [], _, _, j, e, _, _, h => by simp at h
  | e0 :: es, _, [], j, e, .cons a b c, r, h => by cases r
  | e0 :: es, _, q :: kvs, j, e, .cons (kv := kv) a b c, r, h => by
    cases r with
    | cons r1 r2 =>
      cases j with
      | zero =>
        have ee : e0 = e := by simpa using h
        subst ee
        rcases keyIs_shape (show keyIs kv.1 e0.key = true from a) with ⟨i, t, e1, e2⟩ | ⟨x, t, e1, e2⟩
        · have := r1.1
          rw [e1] at this
          cases this
        · have e3 : (Sum.inr q.1 : Key) = kv.1 := r1.1
          rw [e1] at e3
          have e4 : q.1 = x := Sum.inr.inj e3
          refine ⟨q, t, rfl, by rw [e2, e4], ?_⟩
          rw [b]
          exact r1.2
      | succ j => exact pairs_at j c r2 (by simpa using h)
theorem cr_sortIt (hc : X.calm = true) : CallR X (.builtin "sorted") rSortIt := by
  intro pins s σ H xs us Q I r h
  obtain ⟨p, a, kvs, rfl, hp, ha, q⟩ := h
  obtain rfl := Vals.ref1 r
  have view : s.heap.IsItemsView p a := (show ObjOk X.prog X.w H s.heap p (DX.itemsO p a) from I.hok p _ hp).1
  obtain ⟨hz0, hd, vs, rel, o, es, ep, ho, hx, hdat, _, hpr, hnd⟩ := dk_rd I.hok ha
  rw [List.length_map] at hz0
  have l1 : (kvs.map entS).length = vs.length := rel.length
  rw [List.length_map] at l1
  have l2 : es.size = vs.length := by
    have := hpr.length
    rwa [Array.length_toList] at this
  have hh : X.A.handled = none := I.ok.hd hc
  refine DT.sortedI (es := es) (ep := ep) hh view ⟨o, ho, hx, hdat⟩ (by omega) fun h' tk as hk hlt hl hG => ?_
  have lak : as.length = kvs.length := by omega
  have nd : as.Nodup := List.Pairwise.imp (fun h => Nat.ne_of_lt h) hG.rise
  have ndk : (kvs.map (·.1)).Nodup := by
    have e1 : vs.map (·.1) = (kvs.map (·.1)).map (Sum.inr : Str → Key) := by
      clear hpr hnd l1 l2 hl lak hz0 ha q
      induction kvs generalizing vs with
      | nil => cases rel; rfl
      | cons k kvs ih =>
        cases rel with
        | cons h t =>
          rw [List.map_cons, List.map_cons, List.map_cons, ← ih _ t, ← h.1]
    rw [e1] at hnd
    exact nd_of_map _ hnd
  have pr : ∀ (j : Nat) (b : Addr), as[j]? = some b → ∃ (e : Str × V) (t : Tok) (u : Value), kvs[j]? = some e ∧ RelV e.2 u ∧ h'.get? b = some { cls := .type "tuple", data := .seq #[.str e.1 t, u] } := by
    intro j b hj
    obtain ⟨en, he, hg⟩ := hG.pairs j b hj
    obtain ⟨e, t, h1, h2, h3⟩ := pairs_at j hpr rel (show es.toList[j]? = some en by simpa using he)
    refine ⟨e, t, en.val, h1, h3, ?_⟩
    rw [hg, h2]
  have hob : (h'.push { cls := .type "list", data := .seq (as.map Value.ref).toArray }).get? h'.objs.size = some (seqObj "list" (as.map Value.ref).toArray 0) := Heap.get?_push_size _ rfl
  have ne0 : ∀ b o, h'.get? b = some o → b ≠ h'.objs.size := fun b o e => Nat.ne_of_lt (Heap.lt_size e)
  generalize hh2 : h'.push { cls := .type "list", data := .seq (as.map Value.ref).toArray } = h2 at hob ⊢
  have ka : ∀ b o, h'.get? b = some o → h2.get? b = some o := fun b o e => by rw [← hh2]; exact Heap.get?_push_of_some _ e
  have tp : ∀ (j : Nat) (b : Addr), as[j]? = some b → ∃ (e : Str × V) (u : Value), kvs[j]? = some e ∧ RelV e.2 u ∧ TxP h2 (.ref b) e.1 u := by
    intro j b hj
    obtain ⟨e, t, u, h1, h3, h4⟩ := pr j b hj
    exact ⟨e, u, h1, h3, b, _, t, 0, rfl, ka _ _ h4, rfl, rfl⟩
  have at_ : ∀ v ∈ as.map Value.ref, ∃ (j : Nat) (b : Addr), v = .ref b ∧ as[j]? = some b := by
    intro v hv
    obtain ⟨b, hb, rfl⟩ := List.mem_map.mp hv
    obtain ⟨j, hj⟩ := List.mem_iff_getElem?.mp hb
    exact ⟨j, b, rfl, hj⟩
  have one : ∀ v ∈ as.map Value.ref, ∀ z ∈ as.map Value.ref, tkey h2 v = tkey h2 z → v = z := by
    intro v hv z hz e
    obtain ⟨j, b, rfl, hj⟩ := at_ v hv
    obtain ⟨i, c, rfl, hi⟩ := at_ z hz
    obtain ⟨e1, u1, k1, _, t1⟩ := tp j b hj
    obtain ⟨e2, u2, k2, _, t2⟩ := tp i c hi
    rw [t1.key, t2.key] at e
    have g1 : (kvs.map (·.1))[j]? = some e1.1 := by rw [List.getElem?_map, k1]; rfl
    have g2 : (kvs.map (·.1))[i]? = some e1.1 := by rw [List.getElem?_map, k2, e]; rfl
    have ij : j = i := (List.getElem?_inj (List.getElem?_eq_some_iff.mp g1).1 ndk).mp (g1.trans g2.symm)
    subst ij
    rw [hj] at hi
    cases hi
    rfl
  refine wpAny_call_entry PyProof.Rows.slot_list_sort ⟨_, hob, rfl⟩ PyProof.Rows.entry_list_sort
    (SrtO.list_sort_ord (s := { s with heap := h2, toks := tk }) (ltK_swo h2) hob (by rw [List.length_map]; omega) (fun hh2' => txp_sortable (by omega) (fun v hv => ?_) one (fun z => ?_)) fun out hs hb => ⟨.none, rfl, ?_⟩) (PyProof.Rows.args_list_sort _)
  · obtain ⟨j, b, rfl, hj⟩ := at_ v hv
    obtain ⟨e, u, _, _, t⟩ := tp j b hj
    exact ⟨e.1, u, t, t.key⟩
  · obtain ⟨b, hb, e⟩ := List.mem_map.mp z
    have := hG.there hb
    rw [Value.ref.inj e] at this
    exact absurd this (Nat.lt_irrefl _)
  · show EP X pins σ Q (.ref h'.objs.size) { s with heap := sortedHeap h2 h'.objs.size (as.map Value.ref) out.toArray, toks := tk }
    obtain ⟨zs, pz, ez⟩ := perm_lift (fun z : Addr × Str × V => Value.ref z.1) hb.perm (as.zip kvs) (by
      have := congrArg (List.map Value.ref) (List.map_fst_zip (l₁ := as) (l₂ := kvs) (by omega))
      rw [← this, List.map_map]
      rfl)
    have idx : ∀ z ∈ zs, ∃ j : Nat, as[j]? = some z.1 ∧ kvs[j]? = some z.2 := by
      intro z' hz'
      obtain ⟨j, hj⟩ := List.mem_iff_getElem?.mp (pz.mem_iff.mp hz')
      exact ⟨j, List.getElem?_zip_eq_some.mp hj⟩
    have hperm : (zs.map (·.2)).Perm kvs := by
      have e := pz.map (·.2)
      have m2 : (as.zip kvs).map (·.2) = kvs := List.map_snd_zip (by rw [lak]; exact Nat.le_refl _)
      rw [m2] at e
      exact e
    have kyz : ∀ z ∈ zs, tkey h2 (.ref z.1) = z.2.1 := by
      intro z hz
      obtain ⟨j, j1, j2⟩ := idx z hz
      obtain ⟨e, u, k1, _, t1⟩ := tp j _ j1
      rw [t1.key]
      rw [k1] at j2
      rw [Option.some.inj j2]
    have hsort : (zs.map (·.2.1)).Pairwise (fun a b => leS a b = true) := by
      have hs' : List.Pairwise (fun x y => ltK h2 y x = false) out := hs
      rw [← ez, List.pairwise_map] at hs'
      rw [List.pairwise_map]
      refine List.Pairwise.imp_of_mem (fun {x y} hx hy h => ?_) hs'
      unfold ltK at h
      rw [kyz x hx, kyz y hy] at h
      unfold leS
      rw [h]
      rfl
    have kF : ∀ b o, b ≠ h'.objs.size → h2.get? b = some o → (sortedHeap h2 h'.objs.size (as.map Value.ref) out.toArray).get? b = some o := fun b o hb e => (PyProof.Rows.sortedHeap_old hb (Heap.lt_size e)).trans e
    have kS : ∀ b o, s.heap.get? b = some o → (sortedHeap h2 h'.objs.size (as.map Value.ref) out.toArray).get? b = some o := fun b o e => kF b o (ne0 _ _ (hk b o e)) (ka _ _ (hk b o e))
    obtain ⟨eF, heF⟩ := PyProof.Rows.sortedHeap_at (vs := as.map Value.ref) (out := out.toArray) hob
    have I1 : Inv X pins σ H { s with heap := sortedHeap h2 h'.objs.size (as.map Value.ref) out.toArray, toks := tk } := I.kept (t' := tk) kS
    have hn0 : H h'.objs.size = none := I.hok.fresh (Nat.le_of_lt hlt)
    have hlen : (zs.map fun z => V.ref z.1).length ≤ sizeLine := by
      have e := hperm.length_eq
      rw [List.length_map] at e
      rw [List.length_map]
      omega
    have rv : Vals (zs.map fun z => V.ref z.1) out.toArray.toList := by
      rw [List.toList_toArray, ← ez]
      exact vals_maps (fun z : Addr × Str × V => V.ref z.1) (fun z => Value.ref z.1) zs fun _ _ => rfl
    have I2 : Inv X pins σ (upd H h'.objs.size (.lst (zs.map fun z => V.ref z.1))) { s with heap := sortedHeap h2 h'.objs.size (as.map Value.ref) out.toArray, toks := tk } :=
      I1.take (h' := sortedHeap h2 h'.objs.size (as.map Value.ref) out.toArray) (t' := tk) (fun b ob _ e => e) (I.fpOk (Nat.le_of_lt hlt) hn0) ⟨hlen, out.toArray.toList, eF, rv, heF⟩
    obtain ⟨H2, I3, g, qt⟩ := DX.takeT (P := fun b vs => ∃ (j : Nat) (e : Str × V), as[j]? = some b ∧ kvs[j]? = some e ∧ vs = [.str e.1, e.2]) I as _ I2 nd fun b hb => by
      obtain ⟨j, hj⟩ := List.mem_iff_getElem?.mp hb
      obtain ⟨e, t, u, he, hr, hg⟩ := pr j b hj
      have hbl : s.heap.objs.size ≤ b := Nat.le_of_lt (hG.above b hb)
      refine ⟨hbl, ?_, [.str e.1, e.2], ⟨j, e, hj, he, rfl⟩, fun H3 => ⟨(by rw [sizeLine_eq]; show 2 ≤ 16777216; omega), [Value.str e.1 t, u], .cons ⟨t, rfl⟩ (.cons hr .nil), ⟨_, kF _ _ (ne0 _ _ hg) (ka _ _ hg), rfl, 0, rfl⟩⟩⟩
      rw [upd_ne (ne0 _ _ hg)]
      exact I.hok.fresh hbl
    have gr : ∀ b o, H b = some o → H2 b = some o := fun b o e => g b o (by rw [upd_ne (ne_of_none e hn0)]; exact e)
    refine ⟨.ref h'.objs.size, H2, I3, rfl, q H2 h'.objs.size zs gr hn0 (fun z hz => ?_) (fun z => ?_) hperm hsort ndk (g _ _ upd_same) fun z' hz' => ?_⟩
    · obtain ⟨i, i1, _⟩ := idx z hz
      exact I.hok.fresh (Nat.le_of_lt (hG.above _ (List.mem_of_getElem? i1)))
    · obtain ⟨z, hz, e⟩ := List.mem_map.mp z
      obtain ⟨i, i1, _⟩ := idx z hz
      have := hG.there (List.mem_of_getElem? i1)
      rw [e] at this
      exact absurd this (Nat.lt_irrefl _)
    · obtain ⟨i, i1, i2⟩ := idx z' hz'
      obtain ⟨vs', ⟨j, e, j1, j2, ev⟩, hH⟩ := qt z'.1 (List.mem_of_getElem? i1)
      have eij : i = j := (List.getElem?_inj (List.getElem?_eq_some_iff.mp i1).1 nd).mp (i1.trans j1.symm)
      subst eij
      have ee : e = z'.2 := Option.some.inj (j2.symm.trans i2)
      rw [ev, ee] at hH
      exact hH
end
end RC

namespace RC
open PySem PySem.Spec PyProof.Rows L2
/-! ### sorted(d.items()) by data -/
def dSrt {α : Type} (m : List (Str × α)) : List (Str × α) := (srtS' (ks m)).filterMap fun k => (lk m k).map fun x => (k, x)
def itv (p : Addr) (v : V) : Res := exi fun a => prp (v = .ref a) (pt p (DX.itemsO p a))
section
variable {K : PySem.W.Frag} {α : Type} {e : α → PyData} {Rs : List Res} {H H' : Hp} {Q : VK} {v : V} {p : Addr}
theorem growT {F : Hp} {L : List Cell} (s : Sat F Rs L) (mm : MemC F L H) (ex : ∀ b o, H b = some o → H' b = some o) (T : List Addr) (hT : ∀ t ∈ T, H t = none) :
    ∃ F', Ext F F' ∧ Sat F' Rs L ∧ MemC F' L H' ∧ (∀ t ∈ T, F' t = H' t) ∧ (∀ b, b ∉ T → F' b = F b) := by
  classical
  have e1 : Ext F (fun b => if b ∈ T then H' b else F b) := fun b o h => by
    show (if b ∈ T then H' b else F b) = some o
    split
    · exact ex _ _ (mm.ex _ _ h)
    · exact h
  refine ⟨fun b => if b ∈ T then H' b else F b, e1, s.mono e1, ⟨fun b o h => ?_, fun c hc => ?_, mm.nd⟩, fun t ht => if_pos ht, fun b hb => if_neg hb⟩
  · have h : (if b ∈ T then H' b else F b) = some o := h
    split at h
    · exact h
    · exact ex _ _ (mm.ex _ _ h)
  · obtain ⟨h1, h2⟩ := mm.own c hc
    refine ⟨ex _ _ h1, ?_⟩
    show (if c.1 ∈ T then H' c.1 else F c.1) = none
    rw [if_neg fun z => by rw [hT _ z] at h1; cases h1]
    exact h2
theorem v_items {κ : Type} {ik : κ → Key} {m : List (κ × α)} (D : DVs K Rs H ik e v m) (k : ∀ p H', M (itv p v :: Rs) H' → Q (.ref p) H') : rItemsK v [] H Q := by
  obtain ⟨a, kvs, F, L, rfl, h, s, mm, t⟩ := D
  exact ⟨a, kvs, rfl, rfl, h, fun p hp => k p _ (M.ex' (T := fun b => prp (V.ref a = .ref b) (pt p (DX.itemsO p b))) a (M.pr' rfl (M.new ⟨F, L, s, mm⟩ hp)))⟩
theorem v_itty {κ : Type} {ik : κ → Key} {m : List (κ × α)} {φ : V → Prop} (D : DVs K Rs H ik e v m) (h : ∀ a, v = .ref a → φ v) : φ v := by
  obtain ⟨a, _, _, _, rfl, _⟩ := D
  exact h a rfl
theorem tkv_S {F : Hp} : ∀ {kvs : List (Key × V)} {m : List (Str × α)}, TKv K F iS e kvs m → ∃ us : List (Str × V), kvs = us.map entS ∧ Paired (fun (u : Str × V) (q : Str × α) => u.1 = q.1 ∧ Dq K F u.2 (e q.2)) us m
  | _, _, .nil => ⟨[], rfl, .nil⟩
  | _, _, .cons (k := k) (v := v) h t => by
    obtain ⟨us, rfl, hp⟩ := tkv_S t
    exact ⟨(k, v) :: us, rfl, .cons ⟨rfl, h⟩ hp⟩
theorem paired_zip {A B : Type} {R : A → B → Prop} : ∀ {xs : List A} {ys : List B}, Paired R xs ys → (xs.zip ys).map (·.1) = xs ∧ (xs.zip ys).map (·.2) = ys ∧ ∀ z ∈ xs.zip ys, R z.1 z.2
  | _, _, .nil => ⟨rfl, rfl, fun _ h => by simp at h⟩
  | _, _, .cons h t => by
    obtain ⟨a, b, c⟩ := paired_zip t
    refine ⟨by simp [a], by simp [b], fun z hz => ?_⟩
    rw [List.zip_cons_cons] at hz
    rcases List.mem_cons.mp hz with rfl | hz
    · exact h
    · exact c z hz
theorem lk_of_nd {κ : Type} [DecidableEq κ] {m : List (κ × α)} (h : (ks m).Nodup) {q : κ × α} (hq : q ∈ m) : lk m q.1 = some q.2 := by
  induction m with
  | nil => simp at hq
  | cons r m ih =>
    have h' : (r.1 :: ks m).Nodup := h
    obtain ⟨n1, n2⟩ := List.nodup_cons.mp h'
    rcases List.mem_cons.mp hq with rfl | hq
    · simp [lk]
    · have ne : ¬ r.1 = q.1 := fun z => n1 (by rw [z]; exact List.mem_map.mpr ⟨q, hq, rfl⟩)
      have := ih n2 hq
      simp only [lk, List.find?_cons, decide_eq_false ne] at this ⊢
      exact this
theorem dSrt_of {m m' : List (Str × α)} (hp : m'.Perm m) (nd : (ks m).Nodup) (hs : (ks m').Pairwise (fun a b => leS a b = true)) : m' = dSrt m := by
  have ek : ks m' = srtS' (ks m) := pwS_eq (List.Perm.trans (show (ks m').Perm (ks m) from hp.map _) (srtS_perm _).symm) hs (srtS_pw _)
  unfold dSrt
  rw [← ek]
  have hm : ∀ q ∈ m', lk m q.1 = some q.2 := fun q hq => lk_of_nd nd (hp.mem_iff.mp hq)
  clear ek hs hp
  induction m' with
  | nil => rfl
  | cons q r ih =>
    show q :: r = (q.1 :: ks r).filterMap _
    rw [List.filterMap_cons, hm q List.mem_cons_self]
    show q :: r = q :: _
    rw [← ih fun z hz => hm z (List.mem_cons_of_mem _ hz)]
theorem v_sortIt {m : List (Str × α)} (D : DVs K (itv p v :: Rs) H iS e v m) (k : ∀ q H', M (acR K q ((dSrt m).map (eP eS e)) :: Rs) H' → Q (.ref q) H') : rSortIt [.ref p] H Q := by
  obtain ⟨a, kvs, F, L, rfl, h, s, mm, t⟩ := D
  obtain ⟨us, rfl, hu⟩ := tkv_S t
  obtain ⟨l1, l2, rfl, hi, s2⟩ := s
  have hp : H p = some (DX.itemsO p a) := by
    obtain ⟨b, rfl', hb⟩ := (show ∃ b, (V.ref a = V.ref b) ∧ (pt p (DX.itemsO p b)).on F l1 from by
      obtain ⟨b, e1, e2⟩ := hi
      exact ⟨b, e1, e2⟩)
    cases rfl'
    have hb : l1 = [(p, DX.itemsO p a)] := hb
    exact (mm.own (p, DX.itemsO p a) (by rw [hb]; simp)).1
  refine ⟨p, a, us, rfl, hp, h, fun H' l zs ex hl hz hlz pm so nd hll hzz => ?_⟩
  obtain ⟨z1, z2, z3⟩ := paired_zip hu
  obtain ⟨P, pp, pe⟩ := perm_lift (fun z : (Str × V) × (Str × α) => z.1) pm (us.zip m) z1
  have mp : (P.map (·.2)).Perm m := by
    have := pp.map (·.2)
    rwa [z2] at this
  have hR : ∀ z ∈ P, z.1.1 = z.2.1 ∧ Dq K F z.1.2 (e z.2.2) := fun z hz => z3 z (pp.mem_iff.mp hz)
  have kk : ks (P.map (·.2)) = zs.map (·.2.1) := by
    have e1 : zs.map (·.2.1) = (zs.map (·.2)).map (·.1) := by rw [List.map_map]; rfl
    rw [e1, ← pe, List.map_map]
    show (P.map (·.2)).map (·.1) = _
    rw [List.map_map]
    exact List.map_congr_left fun z hz => (hR z hz).1.symm
  have ndm : (ks m).Nodup := by
    have e1 : ks m = us.map (·.1) := by
      show m.map (·.1) = _
      have a1 : us.map (·.1) = ((us.zip m).map (·.1)).map (·.1) := by rw [z1]
      have a2 : m.map (·.1) = ((us.zip m).map (·.2)).map (·.1) := by rw [z2]
      rw [a1, a2, List.map_map, List.map_map]
      exact List.map_congr_left fun z hz => (z3 z hz).1.symm
    rw [e1]
    exact nd
  have em : P.map (·.2) = dSrt m := dSrt_of mp ndm (by rw [kk]; exact so)
  obtain ⟨F', eF, sF, mF, tF, oF⟩ := growT (L := l2) s2 ⟨mm.ex, fun c hc => mm.own c (List.mem_append_right _ hc), (by
    have := mm.nd
    rw [List.map_append] at this
    exact (List.nodup_append.mp this).2.1)⟩ ex (zs.map (·.1)) (fun t ht => by
      obtain ⟨z, hz', rfl⟩ := List.mem_map.mp ht
      exact hz z hz')
  have hdq : DqAll K F' (zs.map fun z => V.ref z.1) ((dSrt m).map (eP eS e)) := by
    rw [← em]
    have hz2 : ∀ z ∈ zs, F' z.1 = some (.tup [.str z.2.1, z.2.2]) := fun z hz' => by
      rw [tF _ (List.mem_map.mpr ⟨z, hz', rfl⟩)]
      exact hzz z hz'
    clear em kk mp pp z1 z2 z3 hu pm so hll hzz tF oF hlz hz
    induction zs generalizing P with
    | nil =>
      cases P with
      | nil => exact .nil
      | cons _ _ => simp at pe
    | cons z zs ih =>
      cases P with
      | nil => simp at pe
      | cons q P =>
        simp only [List.map_cons, List.cons.injEq] at pe
        obtain ⟨q1, q2⟩ := hR q List.mem_cons_self
        refine .cons ?_ (ih P pe.2 (fun z' h' => hR z' (List.mem_cons_of_mem _ h')) fun z' h' => hz2 z' (List.mem_cons_of_mem _ h'))
        have hz0 := hz2 z List.mem_cons_self
        rw [← pe.1, q1] at hz0
        exact .tup (.inl (.inl hz0)) (.cons (.str _) (.cons (Dq_ext eF q2) .nil))
  refine k l H' ⟨F', (l, .lst (zs.map fun z => V.ref z.1)) :: l2, ⟨[(l, .lst (zs.map fun z => V.ref z.1))], l2, rfl, ⟨_, [(l, .lst (zs.map fun z => V.ref z.1))], [], by simp, rfl, rfl, hdq⟩, sF⟩, ⟨mF.ex, fun c hc => ?_, ?_⟩⟩
  · rcases List.mem_cons.mp hc with rfl | hc
    · refine ⟨hll, ?_⟩
      rw [oF _ hlz]
      cases q : F l with
      | none => rfl
      | some o => rw [mm.ex _ _ q] at hl; cases hl
    · exact mF.own c hc
  · rw [List.map_cons]
    refine List.nodup_cons.mpr ⟨fun z => ?_, mF.nd⟩
    obtain ⟨c, hc, ec⟩ := List.mem_map.mp z
    have := (mm.own c (List.mem_append_right _ hc)).1
    rw [ec, show H l = none from hl] at this
    cases this
end
/-! ### list(d) -/
def rListK : List V → Hp → VK → Prop := fun xs H Q => ∃ p kvs, xs = [.ref p] ∧ Rd H p (.dK kvs) ∧ ∀ q, H q = none → Q (.ref q) (upd H q (.lst (kvs.map fun kv => kV kv.1)))
theorem cr_listK {X : Cx} (hc : X.calm = true) : CallR X (.type "list") rListK := by
  intro pins s σ H xs us Q I r h
  obtain ⟨p, kvs, e, hk, q⟩ := h
  subst e
  obtain ⟨u, eu, rx⟩ := vals1 r
  subst eu
  obtain rfl : u = Value.ref p := rx
  obtain ⟨z, lo, vs, rk, hd⟩ := dk_rd I.hok hk
  obtain ⟨ep, hat⟩ := hd.dictAt
  have hl : kvs.length = vs.length := Paired.length rk
  refine PySem.W.kdl_call (PySem.W.kdl_dict (knd := mixKind X.prog X.w) (kvs := vs) (ep := ep) lo) (I.ok.hd hc) hat (by rw [← hl]; exact z) fun h' tk acc' c' hkeep hS hacc => ?_
  refine ⟨.ref s.heap.objs.size, upd H s.heap.objs.size (.lst (kvs.map fun kv => kV kv.1)), I.laid hkeep (Nat.le_refl _) (show ObjOk X.prog X.w _ _ _ (.lst (kvs.map fun kv => kV kv.1)) from ⟨?_, acc'.toList, c', ?_, ?_⟩), rfl, q _ (I.hok.fresh (Nat.le_refl _))⟩
  · rw [List.length_map]; exact z
  · have el : acc'.toList.length = acc'.size := by simp
    refine vals_of_at (by rw [List.length_map, el, hacc.1, hl]) fun j x w h1 h2 => ?_
    obtain ⟨k, y, hky, hi⟩ := hacc.2 j w (by rw [← Array.getElem?_toList]; exact h2)
    have e1 : (kvs.map (·.1))[j]? = some k := by
      rw [KV.keys rk, List.getElem?_map, hky] <;> rfl
    have e2 : (kvs.map fun kv => kV kv.1)[j]? = some (kV k) := by
      have e3 : (kvs.map fun kv => kV kv.1) = (kvs.map (·.1)).map kV := by rw [List.map_map] <;> rfl
      rw [e3, List.getElem?_map, e1] <;> rfl
    rw [e2] at h1
    cases h1
    exact keyIs_rel hi
  · rw [Array.toArray_toList]; exact hS
section
variable {K : PySem.W.Frag} {α : Type} {e : α → PyData} {Rs : List Res} {H H' : Hp} {Q : VK} {v : V} {p : Addr} {σ : L2.St}
theorem d_listS {m : List (Str × α)} (D : DVs K Rs H iS e v m) (k : ∀ q H', M (acR K q ((ks m).map eS) :: Rs) H' → Q (.ref q) H') : rListK [v] H Q := by
  obtain ⟨a, kvs, F, L, rfl, h, s, mm, t⟩ := D
  refine ⟨a, kvs, rfl, h, fun q hq => ?_⟩
  have e1 : (kvs.map fun kv => kV kv.1) = (ks m).map V.str := by
    have := congrArg (List.map kV) t.keys
    rw [List.map_map, List.map_map] at this
    exact this
  rw [e1]
  exact k q _ (M.ownS (M.new ⟨F, L, s, mm⟩ hq))
theorem d_listI {m : List (Int × α)} (D : DVs K Rs H iI e v m) (k : ∀ q H', M (acR K q ((ks m).map eI) :: Rs) H' → Q (.ref q) H') : rListK [v] H Q := by
  obtain ⟨a, kvs, F, L, rfl, h, s, mm, t⟩ := D
  refine ⟨a, kvs, rfl, h, fun q hq => ?_⟩
  have e1 : (kvs.map fun kv => kV kv.1) = (ks m).map V.int := by
    have := congrArg (List.map kV) t.keys
    rw [List.map_map, List.map_map] at this
    exact this
  rw [e1]
  exact k q _ (M.ownI (M.new ⟨F, L, s, mm⟩ hq))
end
/-! ### lists of three things -/
def eL3 {α β γ : Type} (a : α → PyData) (b : β → PyData) (c : γ → PyData) (x : α × β × γ) : PyData := .list [a x.1, b x.2.1, c x.2.2]
section
variable {K : PySem.W.Frag} {α β γ : Type} {ea : α → PyData} {eb : β → PyData} {ec : γ → PyData} {Rs : List Res} {H H' : Hp} {Q : VK} {v : V} {p : Addr} {σ : L2.St}
theorem v_ixl3 {ds : List PyData} {i : Int} {d : PyData} (S : M Rs H) (j : Nat) (hj : Rs[j]? = some (da K v (.list ds))) (hx : atI ds i = some d) (k : ∀ u, M (da K u d :: Rs) H → Q u H) : uIx K v (.int i) H Q :=
  v_ixq S (.inl (EnF.at j hj)) hx k
theorem M.openL3 {q : α × β × γ} (S : M Rs H) (j : Nat) (hj : Rs[j]? = some (da K v (eL3 ea eb ec q))) : ∃ a u w y, v = .ref a ∧ SqL K H a [u, w, y] ∧ M (da K u (ea q.1) :: da K w (eb q.2.1) :: da K y (ec q.2.2) :: Rs) H := by
  obtain ⟨F, L, s, m⟩ := S
  cases EnF.at j hj F L s with
  | lst a t =>
    cases t with
    | cons d1 t =>
      cases t with
      | cons d2 t =>
        cases t with
        | cons d3 t =>
          cases t
          exact ⟨_, _, _, _, rfl, m.ex.sqL a, F, L, ⟨[], L, rfl, ⟨rfl, d1⟩, [], L, rfl, ⟨rfl, d2⟩, [], L, rfl, ⟨rfl, d3⟩, s⟩, m⟩
theorem g_gunl {n : Nat} {t : TGs} {a : Addr} {xs : List V} {Q : L2.St → Hp → Prop} (h : SqL K H a xs) (hn : xs.length = n) (k : t xs σ H Q) : gUnl K n t (.ref a) σ H Q := ⟨a, xs, rfl, h, hn, k⟩
theorem v_lst3 {vs : List V} {x : α × β × γ} (S : M Rs H) (h : EnF Rs (fun F => DqAll K F vs [ea x.1, eb x.2.1, ec x.2.2])) (hn : vs.length ≤ 100000) (k : ∀ p H', M (da K (.ref p) (eL3 ea eb ec x) :: Rs) H' → Q (.ref p) H') : LstK Q vs H :=
  v_lsto S h hn fun p H' S' => k p H' (acR_fix S')
end
/-! ### x or y, x any thing: None or a tuple of some things -/
def orOk : PyData → Prop
  | .none => True
  | .tuple (_ :: _) => True
  | _ => False
section
variable {K : PySem.W.Frag} {Rs : List Res} {H : Hp} {Q : VK} {v : V} {d : PyData} {ta tb : TE} {σ : L2.St}
def OrK (K : PySem.W.Frag) (tb : TE) (σ : L2.St) (Q : VK) : VK := fun x H1 => ∃ k, TruV K x H1 k ∧ if k = true then Q x H1 else tb σ H1 Q
theorem g_orT (h : ta σ H (OrK K tb σ Q)) : tOrT K ta tb σ H Q := h
theorem v_orA {X Y : Prop} (h : Dq K H v d) (ho : orOk d) (hf : if (!isNo d) = true then X else Y) (k1 : X → Q v H) (k2 : Y → tb σ H Q) : OrK K tb σ Q v H := by
  cases h with
  | non => exact ⟨false, rfl, by simpa [isNo] using k2 (by simpa [isNo] using hf)⟩
  | @tup a vs ds h t =>
    cases t with
    | nil => exact ho.elim
    | @cons v0 d0 vs ds d1 t => exact ⟨true, .inr (.inl ⟨_, h, rfl⟩), by simpa using k1 (by simpa [isNo] using hf)⟩
  | _ => exact ho.elim
end
/-! ### d != {} -/
def rNeE : R2 := fun x y H Q => ∃ a b ks, x = .ref a ∧ y = .ref b ∧ Rd H a (.dK ks) ∧ Rd H b (.dK []) ∧ Q (.bl (!ks.isEmpty)) H
theorem op_neE {X : Cx} (hu : X.A.units < cLine) : OpR X (compareOp .NotEq) rNeE := by
  intro pins s σ H x y v u Q I rx ry h
  obtain ⟨a, b, ks, rfl, rfl, ha, hb, q⟩ := h
  cases rx
  cases ry
  obtain ⟨_, na, wa, ka, oa⟩ := dk_rd I.hok ha
  obtain ⟨_, nb, wb, kb, ob⟩ := dk_rd I.hok hb
  cases kb
  refine rc_dctNe (r := true) na nb oa ob hu (fun hl => ?_) _ _ ?_
  · have : wa = [] := List.eq_nil_of_length_eq_zero hl
    subst this
    exact .nil
  · refine ⟨.bl _, H, I, rfl, ?_⟩
    have e : (!(wa.length == ([] : List (Key × Value)).length && true)) = !ks.isEmpty := by
      have := ka.length
      cases ks with
      | nil =>
        have : wa = [] := List.eq_nil_of_length_eq_zero (by simpa using this.symm)
        subst this
        rfl
      | cons x r =>
        cases wa with
        | nil => simp at this
        | cons y r => simp
    rw [e]
    exact q
section
variable {K : PySem.W.Frag} {α κ : Type} {ik ik' : κ → Key} {e e' : α → PyData} {Rs : List Res} {H : Hp} {Q : VK} {v : V} {p : Addr} {m : List (κ × α)}
theorem v_neE (D : DVs K Rs H ik e v m) (S : M Rs H) (j : Nat) (hj : Rs[j]? = some (adR K ik' e' p [])) (k : Q (.bl (!m.isEmpty)) H) : rNeE v (.ref p) H Q := by
  obtain ⟨a, kvs, F, L, rfl, h, s, mm, t⟩ := D
  obtain ⟨kv2, h2, t2⟩ := S.gotDk j hj
  cases t2
  refine ⟨a, p, kvs, rfl, rfl, h, .inl h2, ?_⟩
  cases t with
  | nil => exact k
  | cons _ _ => exact k
end
/-! ### while -/
def wlN {β : Type} (F : β → (β → Prop) → (β → Prop) → Prop) : Nat → β → (β → Prop) → Prop
  | 0, _, _ => False
  | n + 1, s, k => F s (fun s' => wlN F n s' k) k
def wlD {β : Type} (F : β → (β → Prop) → (β → Prop) → Prop) (s : β) (k : β → Prop) : Prop := ∃ n, wlN F n s k
def WhT (P : L2.St → Hp → Prop) (tb : TS) (D : Ends) (σ : L2.St) (H : Hp) : Prop := ∃ N : L2.St → Hp → Prop, (∀ σ' H', N σ' H' → P σ' H') ∧ tb { D with nx := N, ct := N, bk := D.nx } σ H
section
variable {β : Type} {F : β → (β → Prop) → (β → Prop) → Prop} {s0 : β} {KK : β → Prop} {tc : TT} {tb : TS} {D : Ends} {σ : L2.St} {H : Hp}
theorem wh_D (hf : wlD F s0 KK) (Inv : β → L2.St → Hp → Prop) (h0 : Inv s0 σ H)
    (hs : ∀ s σ H (kk ke : β → Prop) (P N : L2.St → Hp → Prop), Inv s σ H → (∀ s σ H, kk s → Inv s σ H → P σ H) → (∀ s σ H, ke s → Inv s σ H → N σ H) → F s kk ke → tc σ H fun b H1 => if b = true then WhT P tb ⟨N, D.rt, D.bk, D.ct⟩ σ H1 else N σ H1)
    (hd : ∀ s σ H, KK s → Inv s σ H → D.nx σ H) : WhW tc tb D σ H := by
  obtain ⟨n, hn⟩ := hf
  refine ⟨fun m σ H => ∃ s, wlN F m s KK ∧ Inv s σ H, ⟨n, s0, hn, h0⟩, ?_⟩
  rintro m σ H ⟨s, hm, hI⟩
  cases m with
  | zero => exact hm.elim
  | succ m => exact hs s σ H (fun s' => wlN F m s' KK) KK (fun σ' H' => ∃ m', m' < m + 1 ∧ ∃ s, wlN F m' s KK ∧ Inv s σ' H') D.nx hI (fun s σ H h1 h2 => ⟨m, Nat.lt_succ_self _, s, h1, h2⟩) hd hm
theorem wh_yes {P : L2.St → Hp → Prop} {kk : β → Prop} {Inv : β → L2.St → Hp → Prop} (hP : ∀ s σ H, kk s → Inv s σ H → P σ H) (k : tb ⟨fun σ H => ∃ s', kk s' ∧ Inv s' σ H, D.rt, D.nx, fun σ H => ∃ s', kk s' ∧ Inv s' σ H⟩ σ H) : WhT P tb D σ H :=
  ⟨fun σ H => ∃ s', kk s' ∧ Inv s' σ H, fun σ' H' ⟨s', h1, h2⟩ => hP s' σ' H' h1 h2, k⟩
end
/-! ### for k in d, d of any state -/
section
variable {K : PySem.W.Frag} {κ α β : Type} {ik : κ → Key} {e : α → PyData} {Rs : List Res} {H : Hp} {v : V} {m : List (κ × α)} {σ : L2.St} {f : DF}
theorem bd_unlock {p : Addr} {od : Obj} {kvs : List (Key × V)} (S : M (bdR K ik e v m (.lck p od kvs) :: Rs) H) : H p = some (.frz od (.dK kvs)) ∧ M (bdR K ik e v m .own :: Rs) (upd H p (.dK kvs)) := by
  refine ⟨lck_frz S, ?_⟩
  obtain ⟨e1, S5⟩ := M.pr (show M (prp (v = .ref p) (adL K ik e p od kvs m) :: Rs) H from S)
  subst e1
  have S6 : M (pt p (.dK kvs) :: tkR K ik e kvs m :: Rs) (upd H p (.dK kvs)) := S5.sp.putAt 0 rfl
  exact bd_open (adR_close S6)
theorem bd_lock {p : Addr} (S : M (bdR K ik e v m .own :: Rs) H) : ∃ p kvs, v = .ref p ∧ H p = some (.dK kvs) ∧ kvs.map (·.1) = (ks m).map ik ∧ ∀ od, M (bdR K ik e v m (.lck p od kvs) :: Rs) (upd H p (.frz od (.dK kvs))) := by
  obtain ⟨p, S1⟩ := M.ex (show M ((exi fun q => prp (v = .ref q) (adR K ik e q m)) :: Rs) H from S)
  obtain ⟨rfl, S1'⟩ := S1.pr
  obtain ⟨kvs, S1⟩ := adR_open S1' 0 rfl
  refine ⟨p, kvs, rfl, S1.got 0 rfl, (S1.gotT 1 rfl).keys, fun od => ?_⟩
  have S2 : M (pt p (.frz od (.dK kvs)) :: tkR K ik e kvs m :: Rs) (upd H p (.frz od (.dK kvs))) := S1.putAt 0 rfl
  exact M.pr' rfl S2.sp'
theorem fzd_dat {p : Addr} {od : Obj} {kvs : List (Key × V)} (S : M (bdR K ik e v m (.fzd p od kvs) :: Rs) H) : M (bdR K ik e v m .dat :: Rs) H := by
  obtain ⟨rfl, S5⟩ := M.pr (show M (prp (v = .ref p) (sp2 (fz p (.frz od (.dK kvs))) (tkR K ik e kvs m)) :: Rs) H from S)
  exact M.closeDk S5.sp
theorem for_bd {F : κ → β → (β → Prop) → Prop} {s0 : β} {KK : β → Prop} {g : TG} {tb : TS} {td : TE} {D : Ends} {sv : κ → V} (hsv : ∀ q, kV (ik q) = sv q) (hf : forD F (ks m) s0 KK) (Iv : DF → β → L2.St → Hp → Prop)
    (hI : ∀ f s σ H, Iv f s σ H → ∃ Rs', M (bdR K ik e v m f :: Rs') H ∧ ∀ f' H', M (bdR K ik e v m f' :: Rs') H' → Iv f' s σ H') (h0 : Iv f s0 σ H)
    (htd : ∀ f' H' (Q' : VK), Iv f' s0 σ H' → Q' v H' → td σ H' Q')
    (hs : ∀ f' x s σ H (kk : β → Prop) (R : VK) (B : L2.St → Hp → Prop), Iv f' s σ H →
      (∀ v' H' Rs', M (bdR K ik e v m f' :: Rs') H' → (∀ H'', M (bdR K ik e v m f :: Rs') H'' → D.rt v' H'') → R v' H') → F x s kk →
      g (sv x) σ H fun σ2 H2 => tb ⟨fun σ H => ∃ s', kk s' ∧ Iv f' s' σ H, R, B, fun σ H => ∃ s', kk s' ∧ Iv f' s' σ H⟩ σ2 H2)
    (hd : ∀ s σ H, KK s → Iv f s σ H → D.nx σ H) : tLkS (tFor (iKeys td) g tb) D σ H := by
  obtain ⟨Rs0, S0, g0⟩ := hI _ _ _ _ h0
  cases f with
  | own =>
    obtain ⟨p, kvs, rfl, hp, hk, lk_⟩ := bd_lock (p := 0) S0
    refine .inr ⟨p, .dK kvs, hp, trivial, fun od => ?_⟩
    have I1 := g0 _ _ (lk_ od)
    refine htd _ _ _ I1 ⟨p, od, rfl, .inl ⟨kvs, lck_frz (lk_ od), ?_⟩⟩
    refine for_fz hsv hk hf (Iv (.lck p od kvs)) I1 (fun s σ H h => ?_) (fun x s σ H kk h1 h2 => hs (.lck p od kvs) x s σ H kk _ _ h1 (fun v' H' Rs' S k => ?_) h2) (fun s σ H hK h => ?_)
    · obtain ⟨Rs', S, _⟩ := hI _ _ _ _ h
      exact lck_frz S
    · obtain ⟨a, b⟩ := bd_unlock S
      exact ⟨a, k _ b⟩
    · obtain ⟨Rs', S, q⟩ := hI _ _ _ _ h
      obtain ⟨a, b⟩ := bd_unlock S
      exact ⟨a, hd s σ _ hK (q _ _ b)⟩
  | lck p od kvs =>
    have e1 : v = .ref p := (M.pr (show M (prp (v = .ref p) (adL K ik e p od kvs m) :: Rs0) H from S0)).1
    have t : TKv K H ik e kvs m := ((M.pr (show M (prp (v = .ref p) (adL K ik e p od kvs m) :: Rs0) H from S0)).2).sp.gotT 1 rfl
    refine .inl (htd _ _ _ h0 ⟨p, od, e1, .inl ⟨kvs, lck_frz S0, ?_⟩⟩)
    refine for_fz hsv t.keys hf (Iv (.lck p od kvs)) h0 (fun s σ H h => ?_) (fun x s σ H kk h1 h2 => hs (.lck p od kvs) x s σ H kk _ _ h1 (fun v' H' Rs' S k => k _ S) h2) hd
    obtain ⟨Rs', S, _⟩ := hI _ _ _ _ h
    exact lck_frz S
  | dat =>
    obtain ⟨p, od, kvs, rfl, hk, S2⟩ := M.openDk (show M (da K v (eD ik e m) :: Rs0) H from S0)
    have S3 : M (bdR K ik e (.ref p) m (.fzd p od kvs) :: Rs0) H := M.pr' rfl S2.sp'
    have I1 := g0 _ _ S3
    refine .inl (htd _ _ _ I1 ⟨p, od, rfl, .inl ⟨kvs, fzd_frz S3, ?_⟩⟩)
    refine for_fz hsv hk hf (Iv (.fzd p od kvs)) I1 (fun s σ H h => ?_) (fun x s σ H kk h1 h2 => hs (.fzd p od kvs) x s σ H kk _ _ h1 (fun v' H' Rs' S k => k _ (fzd_dat S)) h2) (fun s σ H hK h => ?_)
    · obtain ⟨Rs', S, _⟩ := hI _ _ _ _ h
      exact fzd_frz S
    · obtain ⟨Rs', S, q⟩ := hI _ _ _ _ h
      exact hd s σ _ hK (q _ _ (fzd_dat S))
  | fzd p od kvs =>
    have e1 : v = .ref p := (M.pr (show M (prp (v = .ref p) (sp2 (fz p (.frz od (.dK kvs))) (tkR K ik e kvs m)) :: Rs0) H from S0)).1
    have t : TKv K H ik e kvs m := ((M.pr (show M (prp (v = .ref p) (sp2 (fz p (.frz od (.dK kvs))) (tkR K ik e kvs m)) :: Rs0) H from S0)).2).sp.gotT 1 rfl
    refine .inl (htd _ _ _ h0 ⟨p, od, e1, .inl ⟨kvs, fzd_frz S0, ?_⟩⟩)
    refine for_fz hsv t.keys hf (Iv (.fzd p od kvs)) h0 (fun s σ H h => ?_) (fun x s σ H kk h1 h2 => hs (.fzd p od kvs) x s σ H kk _ _ h1 (fun v' H' Rs' S k => k _ S) h2) hd
    obtain ⟨Rs', S, _⟩ := hI _ _ _ _ h
    exact fzd_frz S
end
/-! ### d.items() -/
def tItems (to : TE) : TE := fun σ H Q => to σ H fun x H1 => rItemsK x [] H1 Q
theorem g_items {te : TE} {σ : L2.St} {H : Hp} {Q : VK} (k : te σ H fun x H1 => rItemsK x [] H1 Q) : tItems te σ H Q := k
theorem pe_items {X : Cx} {o : Expr} {to : TE} {apos cpos : Pos} (ho : PE X o to) (hbase : attributeBase o "items" X.env (eval o X.env) = eval o X.env := by rfl) (hline : (apos.endLine == cpos.line) = true := by rfl) : PE X (.Call (.Attribute o "items" apos) [] [] cpos) (tItems to) := by
  refine ⟨fun pins s σ H Q I h => ?_⟩
  refine wpAny_Call_method0_late hbase hline (thn (ho.run pins s σ H _ I h) fun v s1 ⟨x, H1, I1, r1, q1⟩ => ?_)
  have q1' := q1
  obtain ⟨a, kvs, rfl, _, ha, _⟩ := q1'
  cases r1
  obtain ⟨_, _, _, _, o, _, _, e, ex, _⟩ := dk_rd I1.hok ha
  exact ⟨"dict", "dict.items", PySem.F.plainAttrs_dict, PySem.F.slot_dict_items, PySem.F.type_dict_items, ⟨o, e, ex.1⟩, (fun a e2 => by cases e2; exact ⟨o, e, ex.2.1⟩), Calls.callWith_builtin rfl (PySem.evalArgs_none (mt_itemsK pins s1 σ H1 (.ref a) [] (.ref a) [] Q I1 rfl .nil q1))⟩
theorem ta_cut {te : TE} {σ : L2.St} {H : Hp} {Q : VK} {m : (PyData → Prop) → Prop} {KK : PyData → Prop} (hf : jn m KK) (Inv : PyData → V → Hp → Prop)
    (h1 : ∀ (kk : PyData → Prop) (P' : VK), (∀ x v H, kk x → Inv x v H → P' v H) → m kk → te σ H P') (h2 : ∀ x v H, KK x → Inv x v H → Q v H) : te σ H Q := h1 KK Q h2 hf
theorem v_par {v w : V} {σ : L2.St} {H : Hp} {D : Ends} {i j : Nat} (k : D.nx ((σ.set i (some v)).set j (some w)) H) : ∃ v' w', [v, w] = [v', w'] ∧ D.nx ((σ.set i (some v')).set j (some w')) H := ⟨_, _, rfl, k⟩
end RC

namespace RC
open PySem PySem.Spec PyProof.Rows L2
/-! ### five things, min and max of two, pop at a place, texts in order, get -/
def eT5 {α β γ δ ε : Type} (e : α → PyData) (f : β → PyData) (g : γ → PyData) (h : δ → PyData) (i : ε → PyData) (x : α × β × γ × δ × ε) : PyData := .tuple [e x.1, f x.2.1, g x.2.2.1, h x.2.2.2.1, i x.2.2.2.2]
def rMin2 : List V → Hp → VK → Prop := fun xs H Q => ∃ i j, xs = [.int i, .int j] ∧ Q (.int (if j < i then j else i)) H
def rMax2 : List V → Hp → VK → Prop := fun xs H Q => ∃ i j, xs = [.int i, .int j] ∧ Q (.int (if j > i then j else i)) H
theorem cr_min2 {X : Cx} (hc : X.calm = true) : CallR X (.builtin "min") rMin2 := call_min2 hc
theorem cr_max2 {X : Cx} (hc : X.calm = true) : CallR X (.builtin "max") rMax2 := call_max2 hc
theorem mt_popR {X : Cx} : MtR X "list.pop" rPopAt := mt_popAt
/-! texts in order -/
def uLeA : R2 := fun x y H Q => uLe x y H Q ∨ ∃ i j : Str, x = .str i ∧ y = .str j ∧ Q (.bl (leS i j)) H
def uLtA : R2 := fun x y H Q => uLt x y H Q ∨ ∃ i j : Str, x = .str i ∧ y = .str j ∧ Q (.bl (!leS j i)) H
theorem ltC_eq : ∀ a b : List Nat, ltCps a b = decide (a < b)
  | [], [] => by simp [ltCps]
  | [], b :: bs => by simp [ltCps]
  | a :: as, [] => by simp [ltCps]
  | a :: as, b :: bs => by
    have ih := ltC_eq as bs
    simp only [ltCps, ih, List.cons_lt_cons_iff]
    by_cases h1 : a < b
    · simp [h1]
    · by_cases h2 : a = b
      · subst h2
        simp
      · simp [h1, h2]
theorem leS_eq (i j : Str) : leS i j = !decide (j.cps.toList < i.cps.toList) := by
  unfold leS
  rw [ltC_eq]
section
variable {X : Cx}
theorem op_leS : OpR X (compareOp .LtE) (fun x y H Q => ∃ i j : Str, x = .str i ∧ y = .str j ∧ Q (.bl (leS i j)) H) := by
  intro pins s σ H x y v u Q I rx ry h
  obtain ⟨i, j, rfl, rfl, q⟩ := h
  obtain ⟨t, rfl⟩ := rx
  obtain ⟨t', rfl⟩ := ry
  rw [leS_eq] at q
  exact PySem.P.le_str (fin_bl I q rfl)
theorem op_ltS : OpR X (compareOp .Lt) (fun x y H Q => ∃ i j : Str, x = .str i ∧ y = .str j ∧ Q (.bl (!leS j i)) H) := by
  intro pins s σ H x y v u Q I rx ry h
  obtain ⟨i, j, rfl, rfl, q⟩ := h
  obtain ⟨t, rfl⟩ := rx
  obtain ⟨t', rfl⟩ := ry
  rw [leS_eq, Bool.not_not] at q
  exact lt_str (fin_bl I q rfl)
theorem uo_leA : OpR X (compareOp .LtE) uLeA := uo_le.or op_leS
theorem uo_ltA : OpR X (compareOp .Lt) uLtA := uo_lt.or op_ltS
end
section
variable {α β : Type} {K : PySem.W.Frag} {Rs : List Res} {H : Hp} {σ : L2.St} {Q : VK} {v : V} {p : Addr} {e : α → PyData}
theorem v_min2 {i j : Int} (k : Q (.int (if j < i then j else i)) H) : rMin2 [.int i, .int j] H Q := ⟨i, j, rfl, k⟩
theorem v_max2 {i j : Int} (k : Q (.int (if j > i then j else i)) H) : rMax2 [.int i, .int j] H Q := ⟨i, j, rfl, k⟩
theorem v_leS {i j : Str} (k : Q (.bl (leS i j)) H) : uLeA (.str i) (.str j) H Q := .inr ⟨i, j, rfl, rfl, k⟩
theorem v_leI {i j : Int} (k : Q (.bl (decide (i ≤ j))) H) : uLeA (.int i) (.int j) H Q := .inl (v_le k)
theorem v_ltS {i j : Str} (k : Q (.bl (!leS j i)) H) : uLtA (.str i) (.str j) H Q := .inr ⟨i, j, rfl, rfl, k⟩
theorem v_ltI {i j : Int} (k : Q (.bl (decide (i < j))) H) : uLtA (.int i) (.int j) H Q := .inl (v_lt k)
theorem ixN_seq {n k : Nat} {i : Int} (h : ixN n i = some k) : seqIndex? i n = some k := by
  unfold ixN at h
  split at h
  · rename_i z
    split at h
    · cases h
      have e : (if i < 0 then i + (n : Int) else i) = i := if_neg (by omega)
      simp only [seqIndex?, e, Bool.and_eq_true, decide_eq_true_eq]
      rw [if_pos (by omega)]
    · cases h
  · rename_i z
    split at h
    · cases h
      have e : (if i < 0 then i + (n : Int) else i) = i + n := if_pos (by omega)
      simp only [seqIndex?, e, Bool.and_eq_true, decide_eq_true_eq]
      rw [if_pos (by omega)]
    · cases h
theorem v_popAt {xs : List α} {x : α} {i : Int} {n : Nat} (S : M Rs H) (j : Nat) (hj : Rs[j]? = some (acR K p (xs.map e))) (hi : -(2 ^ 63) ≤ i ∧ i < 2 ^ 63) (hn : ixN xs.length i = some n) (hx : xs[n]? = some x)
    (k : ∀ u H', M (da K u (e x) :: acR K p ((xs.eraseIdx n).map e) :: Rs.eraseIdx j) H' → Q u H') : rPopAt (.ref p) [.int i] H Q := by
  obtain ⟨vs, S2⟩ := (S.at j hj).ex
  have S3 := S2.sp
  have hl : vs.length = xs.length := by
    have := (S3.gotAA 1 rfl).len
    simpa using this
  have hlt : n < vs.length := by
    rw [hl]
    exact (List.getElem?_eq_some_iff.mp hx).1
  have S4 : M (pt p (.lst (vs.eraseIdx n)) :: daA K vs (xs.map e) :: Rs.eraseIdx j) (upd H p (.lst (vs.eraseIdx n))) := S3.putAt 0 rfl
  refine ⟨p, vs, i, n, vs[n], rfl, rfl, S3.got 0 rfl, hi.1, hi.2, by rw [hl]; exact ixN_seq hn, List.getElem?_eq_getElem hlt, k _ _ ?_⟩
  obtain ⟨F, L, ⟨l1, l2, rfl, a1, l3, l4, rfl, ⟨rfl, q⟩, b⟩, mm⟩ := S4
  have q1 : Dq K F vs[n] (e x) := q.at (i := n) (List.getElem?_eq_getElem hlt) (by rw [List.getElem?_map, hx]; rfl)
  have q2 : DqAll K F (vs.eraseIdx n) ((xs.eraseIdx n).map e) := by
    rw [List.eraseIdx_eq_take_drop_succ, List.eraseIdx_eq_take_drop_succ, List.map_append, List.map_take, List.map_drop]
    exact (q.takeA _).app (q.dropA _)
  exact ⟨F, _, ⟨[], _, rfl, ⟨rfl, q1⟩, l1, l4, rfl, ⟨_, l1, [], by simp, a1, rfl, q2⟩, b⟩, mm⟩
end
end RC

namespace RC
open PySem PySem.Spec PyProof.Rows L2
/-! ### dicts, equal or not, in whatever order; get; None or a thing -/
def dEq {κ α : Type} [DecidableEq κ] [DecidableEq α] (m n : List (κ × α)) : Bool := (m.length == n.length) && m.all fun p => decide (lk n p.1 = some p.2)
inductive HitsV (K : PySem.W.Frag) (H : Hp) (ls : List (Key × V)) : List (Key × V) → Bool → Prop
  | nil : HitsV K H ls [] true
  | miss {k : Key} {v : V} {r : List (Key × V)} (h : valV ls k = none) : HitsV K H ls ((k, v) :: r) false
  | hit {k : Key} {v u : V} {r : List (Key × V)} {d e : PyData} {b : Bool} (h : valV ls k = some u) (h1 : Dp K H v d) (h2 : Dp K H u e) (s1 : SeqAt.shaped d = true) (s2 : SeqAt.shaped e = true) (t : HitsV K H ls r b) : HitsV K H ls ((k, v) :: r) (PyData.eqv d e && b)
def rEqD2 (K : PySem.W.Frag) : R2 := fun x y H Q => ∃ a b ks ls r, x = .ref a ∧ y = .ref b ∧ Rd H a (.dK ks) ∧ Rd H b (.dK ls) ∧ HitsV K H ls ks r ∧ Q (.bl (ks.length == ls.length && r)) H
def rNeD2 (K : PySem.W.Frag) : R2 := fun x y H Q => ∃ a b ks ls r, x = .ref a ∧ y = .ref b ∧ Rd H a (.dK ks) ∧ Rd H b (.dK ls) ∧ HitsV K H ls ks r ∧ Q (.bl (!(ks.length == ls.length && r))) H
section
variable {X : Cx} {pins : List (Addr × Obj)} {σ : L2.St} {H : Hp} {s : Shared}
theorem hitsV_run (I : Inv X pins σ H s) {A : Around} (hu : A.units + 65 < cLine) {ls : List (Key × V)} {vb : List (Key × Value)} (rb : KV ls vb) : ∀ {ks : List (Key × V)} {r : Bool}, HitsV X.K H ls ks r → ∀ {va : List (Key × Value)}, KV ks va → PySem.W.KeqHitsP X.prog X.w A s vb va r := by
  intro ks r h
  induction h with
  | nil =>
    intro va ra
    unfold KV at ra
    cases ra
    exact .nil
  | @miss k v r hn =>
    intro va ra
    unfold KV at ra
    cases ra with
    | @cons p q ps qs h1 t =>
      obtain ⟨h1, h2⟩ := h1
      obtain ⟨key, u⟩ := q
      have h1' : k = key := h1
      have rr : RelO none (valueAt vb k) := by rw [← hn]; exact rb.val k
      have e : valueAt vb k = none := by
        cases z : valueAt vb k with
        | none => rfl
        | some y => rw [z] at rr; exact rr.elim
      rw [h1'] at e
      exact .miss e
  | @hit k v u r d e b hv h1 h2 s1 s2 t ih =>
    intro va ra
    unfold KV at ra
    cases ra with
    | @cons p q ps qs hh tt =>
      obtain ⟨k1, k2⟩ := hh
      obtain ⟨key, w⟩ := q
      have k1' : k = key := k1
      have rr : RelO (some u) (valueAt vb k) := by rw [← hv]; exact rb.val k
      obtain ⟨y, hy, ry⟩ := rr.some_of
      rw [k1'] at hy
      obtain ⟨as, r1⟩ := Dp.reads I d v w h1 k2
      obtain ⟨bs, r2⟩ := Dp.reads I e u y h2 ry
      have d1 := shaped_depth s1
      have d2 := shaped_depth s2
      exact .hit hy (SeqAt.eqAt_reads d e A s w y as bs r1 r2 d1.1 d2.1 (by omega)).eqP (ih tt)
end
section
variable {X : Cx}
theorem op_eqD2 (hu : X.A.units + 128 < cLine) : OpR X (compareOp .Eq) (rEqD2 X.K) := by
  intro pins s σ H x y v u Q I rx ry h
  obtain ⟨a, b, ks, ls, r, rfl, rfl, ha, hb, hh, q⟩ := h
  obtain rfl : v = Value.ref a := rx
  obtain rfl : u = Value.ref b := ry
  obtain ⟨_, na, wa, ka, oa⟩ := dk_rd I.hok ha
  obtain ⟨_, nb, wb, kb, ob⟩ := dk_rd I.hok hb
  refine PySem.W.rcP_dicts na nb oa ob (by omega) (fun _ => hitsV_run I (A := X.A.in1) (by show X.A.units + 1 + 65 < cLine; omega) kb hh ka) _ _ ?_
  rw [← ka.length, ← kb.length]
  exact ⟨.bl _, H, I, rfl, q⟩
theorem op_neD2 (hu : X.A.units + 128 < cLine) : OpR X (compareOp .NotEq) (rNeD2 X.K) := by
  intro pins s σ H x y v u Q I rx ry h
  obtain ⟨a, b, ks, ls, r, rfl, rfl, ha, hb, hh, q⟩ := h
  obtain rfl : v = Value.ref a := rx
  obtain rfl : u = Value.ref b := ry
  obtain ⟨_, na, wa, ka, oa⟩ := dk_rd I.hok ha
  obtain ⟨_, nb, wb, kb, ob⟩ := dk_rd I.hok hb
  refine rc_dctNe na nb oa ob (by omega) (fun _ => hitsV_run I (A := X.A.in1) (by show X.A.units + 1 + 65 < cLine; omega) kb hh ka) _ _ ?_
  rw [← ka.length, ← kb.length]
  exact ⟨.bl _, H, I, rfl, q⟩
end
/-- things that are compared by what they are -/
structure EqT {α : Type} [DecidableEq α] (e : α → PyData) : Prop where
  sh : ∀ x, EqOk (e x)
  ev : ∀ x y, PyData.eqv (e x) (e y) = decide (x = y)
theorem eqtLI : EqT (eL eI) := ⟨shaped_LI, fun x y => eqv_LI x y⟩
theorem eqtI : EqT eI := ⟨fun x => rfl, fun x y => by
  show (x == y) = decide (x = y)
  by_cases h : x = y <;> simp [h]⟩
theorem eqtO : EqT (eO eI) := ⟨shaped_O, eqv_O⟩
section
variable {κ α β : Type} [DecidableEq κ] [DecidableEq α] {K : PySem.W.Frag} {Rs : List Res} {H F : Hp} {σ : L2.St} {Q : VK} {v w : V} {p : Addr} {e : α → PyData} {ik : κ → Key} {m n : List (κ × α)}
theorem tkv_hits (T : EqT e) (inj : ∀ a b, ik a = ik b → a = b) {ls : List (Key × V)} (t2 : TKv K H ik e ls n) : ∀ {kvs : List (Key × V)} {m : List (κ × α)}, TKv K H ik e kvs m → HitsV K H ls kvs (m.all fun p => decide (lk n p.1 = some p.2))
  | _, _, .nil => .nil
  | _, _, .cons (k := k) (x := x) d t => by
    have ih := tkv_hits T inj t2 t
    rw [List.all_cons]
    cases e0 : lk n k with
    | none =>
      have := t2.none inj e0
      have e1 : decide ((none : Option α) = some x) = false := by simp
      rw [e1, Bool.false_and]
      exact .miss this
    | some y =>
      obtain ⟨u, h1, h2⟩ := t2.some inj e0
      have e1 : decide (some y = some x) = PyData.eqv (e x) (e y) := by
        rw [T.ev]
        by_cases z : x = y
        · subst z
          simp
        · simp [z, Ne.symm z]
      rw [e1]
      exact .hit h1 (d.dp (T.sh x).nodict) (h2.dp (T.sh y).nodict) (T.sh x) (T.sh y) ih
theorem DVs.eqD (T : EqT e) (inj : ∀ a b, ik a = ik b → a = b) (D1 : DVs K Rs H ik e v m) (D2 : DVs K Rs H ik e w n) : ∃ a b ks ls, v = .ref a ∧ w = .ref b ∧ Rd H a (.dK ks) ∧ Rd H b (.dK ls) ∧ ks.length = m.length ∧ ls.length = n.length ∧ HitsV K H ls ks (m.all fun p => decide (lk n p.1 = some p.2)) := by
  obtain ⟨p, kvs, F, L, rfl, h1, s1, m1, t1⟩ := D1
  obtain ⟨q, ls, F2, L2, rfl, h2, s2, m2, t2⟩ := D2
  exact ⟨p, q, kvs, ls, rfl, rfl, h1, h2, t1.len, t2.len, tkv_hits T inj (TKv.ext m2.ex t2) (TKv.ext m1.ex t1)⟩
def uEqV (K : PySem.W.Frag) : R2 := fun x y H Q => uEqQ K x y H Q ∨ rEqD2 K x y H Q
def uNeV (K : PySem.W.Frag) : R2 := fun x y H Q => uNeQ K x y H Q ∨ rNeD2 K x y H Q
theorem uo_eqV {X : Cx} (hu : X.A.units + 128 < cLine) : OpR X (compareOp .Eq) (uEqV X.K) := (uo_eqQ hu).or (op_eqD2 hu)
theorem uo_neV {X : Cx} (hu : X.A.units + 128 < cLine) : OpR X (compareOp .NotEq) (uNeV X.K) := (uo_neQ hu).or (op_neD2 hu)
theorem v_eqV (T : EqT e) (inj : ∀ a b, ik a = ik b → a = b) (D1 : DVs K Rs H ik e v m) (D2 : DVs K Rs H ik e w n) (k : Q (.bl (dEq m n)) H) : uEqV K v w H Q := by
  obtain ⟨a, b, ks, ls, rfl, rfl, h1, h2, l1, l2, hh⟩ := D1.eqD T inj D2
  refine .inr ⟨a, b, ks, ls, _, rfl, rfl, h1, h2, hh, ?_⟩
  rw [l1, l2]
  exact k
theorem v_neV (T : EqT e) (inj : ∀ a b, ik a = ik b → a = b) (D1 : DVs K Rs H ik e v m) (D2 : DVs K Rs H ik e w n) (k : Q (.bl (!dEq m n)) H) : uNeV K v w H Q := by
  obtain ⟨a, b, ks, ls, rfl, rfl, h1, h2, l1, l2, hh⟩ := D1.eqD T inj D2
  refine .inr ⟨a, b, ks, ls, _, rfl, rfl, h1, h2, hh, ?_⟩
  rw [l1, l2]
  exact k
/-! get -/
def GetO (v y z : V) (H : Hp) (Q : VK) : Prop := ∃ a o, v = .ref a ∧ DGet H a y o ∧ Q (o.getD z) H
def GetK2 (ty tx : TE) (σ : L2.St) (Q : VK) : VK := fun x H1 => ∃ a, x = .ref a ∧ IsD H1 a ∧ ty σ H1 fun y H2 => tx σ H2 fun z H3 => ∃ o, DGet H3 a y o ∧ Q (o.getD z) H3
def GetK1 (ty : TE) (σ : L2.St) (Q : VK) : VK := fun x H1 => ∃ a, x = .ref a ∧ IsD H1 a ∧ ty σ H1 fun y H2 => ∃ o, DGet H2 a y o ∧ Q (o.getD .non) H2
theorem g_dget2 {td ty tx : TE} (k : td σ H (GetK2 ty tx σ Q)) : tDGet2 td ty tx σ H Q := k
theorem g_dget1 {td ty : TE} (k : td σ H (GetK1 ty σ Q)) : tDGet1 td ty σ H Q := k
def GetA (a : Addr) (y z : V) (Q : VK) : Hp → Prop := fun H => ∃ o, DGet H a y o ∧ Q (o.getD z) H
theorem v_dget2 {ty tx : TE} (D : DVs K Rs H ik e v m) (k : ∀ a, v = .ref a → ty σ H fun y H2 => tx σ H2 fun z H3 => GetA a y z Q H3) : GetK2 ty tx σ Q v H := by
  obtain ⟨p, kvs, F, L, rfl, h1, _⟩ := D
  exact ⟨p, rfl, .inl ⟨kvs, h1⟩, k p rfl⟩
theorem v_dget1 {ty : TE} (D : DVs K Rs H ik e v m) (k : ∀ a, v = .ref a → ty σ H fun y H2 => GetA a y .non Q H2) : GetK1 ty σ Q v H := by
  obtain ⟨p, kvs, F, L, rfl, h1, _⟩ := D
  exact ⟨p, rfl, .inl ⟨kvs, h1⟩, k p rfl⟩
theorem DVs.get {a : Addr} {k : κ} (inj : ∀ a b, ik a = ik b → a = b) (D : DVs K Rs H ik e (.ref a) m) : ∃ o, DGet H a (kV (ik k)) o ∧ ((lk m k = none ∧ o = none) ∨ ∃ x u, lk m k = some x ∧ o = some u ∧ M (da K u (e x) :: Rs) H) := by
  obtain ⟨p, kvs, F, L, e0, h1, s1, m1, t1⟩ := D
  cases e0
  refine ⟨valV kvs (ik k), .inl ⟨kvs, ik k, h1, rfl, rfl⟩, ?_⟩
  cases z : lk m k with
  | none => exact .inl ⟨rfl, t1.none inj z⟩
  | some x =>
    obtain ⟨u, hu, hd⟩ := t1.some inj z
    exact .inr ⟨x, u, rfl, hu, F, L, ⟨[], L, rfl, ⟨rfl, hd⟩, s1⟩, m1⟩
theorem v_getN {a : Addr} {k : κ} {y : V} (inj : ∀ a b, ik a = ik b → a = b) (hy : y = kV (ik k)) (S : M Rs H) (D : DVs K Rs H ik e (.ref a) m) (kk : ∀ u, M (da K u (eO e (lk m k)) :: Rs) H → Q u H) : GetA a y .non Q H := by
  subst hy
  obtain ⟨o, h1, ⟨z, rfl⟩ | ⟨x, u, z, rfl, S2⟩⟩ := D.get (k := k) inj
  · refine ⟨none, h1, kk _ ?_⟩
    rw [z]
    exact S.addA (EnF.all fun _ => .non)
  · refine ⟨some u, h1, kk _ ?_⟩
    rw [z]
    exact S2
theorem v_getI {a : Addr} {k : κ} {y : V} {i : Int} {m : List (κ × Int)} (inj : ∀ a b, ik a = ik b → a = b) (hy : y = kV (ik k)) (D : DVs K Rs H ik eI (.ref a) m) (kk : Q (.int ((lk m k).getD i)) H) : GetA a y (.int i) Q H := by
  subst hy
  obtain ⟨o, h1, ⟨z, rfl⟩ | ⟨x, u, z, rfl, S2⟩⟩ := D.get (k := k) inj
  · refine ⟨none, h1, ?_⟩
    rw [z] at kk
    exact kk
  · refine ⟨some u, h1, ?_⟩
    rw [z] at kk
    have := (S2.gotA 0 rfl).intV
    subst this
    exact kk
theorem isNo_Oe {e : α → PyData} (hn : ∀ x, isNo (e x) = false) (x : Option α) : isNo (eO e x) = x.isNone := by
  cases x with
  | none => rfl
  | some x => exact hn x
theorem v_isOe {x : Option α} (hn : ∀ x, isNo (e x) = false) (h : Dq K H v (eO e x)) (k : Q (.bl x.isNone) H) : rIsN v .non H Q := v_isNa h (by rw [isNo_Oe hn]; exact k)
theorem v_notOe {x : Option α} (hn : ∀ x, isNo (e x) = false) (h : Dq K H v (eO e x)) (k : Q (.bl (!x.isNone)) H) : rNotN v .non H Q := v_notNa h (by rw [isNo_Oe hn]; exact k)
end
/-! a dict of pairs with numbers as keys -/
section
variable {κ α : Type} [DecidableEq κ] {K : PySem.W.Frag} {Rs : List Res} {H : Hp} {Q : VK}
theorem v_dictpG {ek : κ → PyData} {ik : κ → Key} {e : α → PyData} {v : V} {ps : List (κ × α)} (hk : ∀ {F : Hp} {v : V} {k : κ}, Dq K F v (ek k) → v = kV (ik k)) (inj : ∀ a b, ik a = ik b → a = b) (S : M Rs H) (j : Nat) (hj : Rs[j]? = some (da K v (eL (eP ek e) ps)))
    (k : ∀ p H', M (adR K ik e p (dOf ps) :: Rs) H' → Q (.ref p) H') : rDictP K [v] H Q := by
  obtain ⟨F, L, s, mm⟩ := S
  cases EnF.at j hj F L s with
  | @lst a vs _ hs q =>
    have key : ∀ {ps : List (κ × α)} {vs : List V}, DqAll K F vs (ps.map (eP ek e)) → ∃ as kvs, vs = as.map V.ref ∧ Paired (fun p (kv : Key × V) => SqT K F p [kV kv.1, kv.2]) as kvs ∧ TKv K F ik e kvs ps := by
      intro ps
      induction ps with
      | nil =>
        intro vs h
        cases h
        exact ⟨[], [], rfl, .nil, .nil⟩
      | cons q ps ih =>
        intro vs h
        cases h with
        | cons d t =>
          obtain ⟨as, kvs, rfl, h2, h3⟩ := ih t
          cases d with
          | @tup b ws _ hb ht =>
            cases ht with
            | cons d1 t1 =>
              cases t1 with
              | cons d2 t2 =>
                cases t2
                have e1 := hk d1
                subst e1
                exact ⟨b :: as, (ik q.1, _) :: kvs, rfl, .cons hb h2, .cons d2 h3⟩
    obtain ⟨as, kvs, rfl, h2, h3⟩ := key q
    refine ⟨a, as, kvs, rfl, mm.ex.sqL hs, Paired.mapP h2 fun p kv z => mm.ex.sqT z, fun p hp => k p _ ?_⟩
    have mg : ∀ {ps : List (κ × α)} {kvs acc : List (Key × V)} {ac : List (κ × α)}, TKv K F ik e kvs ps → TKv K F ik e acc ac → TKv K F ik e (mergeK acc kvs) (ps.foldl (fun acc q => pk acc q.1 q.2) ac) := by
      intro ps
      induction ps with
      | nil =>
        intro kvs acc ac h1 h2
        cases h1
        exact h2
      | cons q ps ih =>
        intro kvs acc ac h1 h2
        cases h1 with
        | @cons k' _ _ _ _ d t =>
          have z := ih t (h2.put (k := k') inj d)
          exact z
    have S0 : M (tkR K ik e (mergeK [] kvs) (dOf ps) :: Rs) H := ⟨F, L, ⟨[], L, rfl, ⟨rfl, mg h3 .nil⟩, s⟩, mm⟩
    exact adR_close (S0.new hp)
theorem v_dictpI {e : α → PyData} {v : V} {ps : List (Int × α)} (S : M Rs H) (j : Nat) (hj : Rs[j]? = some (da K v (eL (eP eI e) ps))) (k : ∀ p H', M (adR K iI e p (dOf ps) :: Rs) H' → Q (.ref p) H') : rDictP K [v] H Q :=
  v_dictpG (ek := eI) (ik := iI) (fun d => by rw [d.intV]; rfl) injI S j hj k
end
end RC

namespace RC
open PySem PySem.Spec PyProof.Rows L2
/-! ### a walk over a list of known things, turn by turn -/
def ForU (K : PySem.W.Frag) (a : Addr) (vs : List V) (g : TG) (tb : TS) (D : Ends) : List V → L2.St → Hp → Prop
  | [], σ, H => SqL K H a vs ∧ D.nx σ H
  | v :: r, σ, H => SqL K H a vs ∧ g v σ H fun σ2 H2 => tb { D with nx := fun σ' H' => ForU K a vs g tb D r σ' H', ct := fun σ' H' => ForU K a vs g tb D r σ' H', bk := D.nx } σ2 H2
theorem for_U {K : PySem.W.Frag} {a : Addr} {vs : List V} {g : TG} {tb : TS} {D : Ends} {σ : L2.St} {H : Hp} (h : ForU K a vs g tb D vs σ H) : ForW (Itl K a) g tb D σ H := by
  refine for_W (n := vs.length) walk_list (fun i σ H => ForU K a vs g tb D (vs.drop i) σ H) h (fun i σ H _ h => ?_) ?_ ?_
  · cases e : vs.drop i with
    | nil => rw [e] at h; exact h.1
    | cons v r => rw [e] at h; exact h.1
  · rintro i v σ H H' hi h ⟨rfl, hv⟩
    rw [List.drop_eq_getElem_cons hi] at h
    have e : vs[i] = v := Option.some.inj ((List.getElem?_eq_getElem hi).symm.trans hv)
    rw [e] at h
    exact h.2
  · intro σ H h
    rw [List.drop_length] at h
    exact h.2
end RC

namespace RC
open PySem PySem.Spec PyProof.Rows L2
/-! ### a, b, *c = a tuple or a list -/
section
variable {prog : Program} {w : World} {A : Around} {I : Addr} {fp wr : List Addr} {n : Nat} {P : Nat → Value → Prop} {St : Nat → Heap → Prop}
theorem walks_from (W : Walks prog w A I fp wr n P St) (k : Nat) (hk : k ≤ n) : Walks prog w A I fp wr (n - k) (fun i v => P (k + i) v) (fun i h => St (k + i) h) := by
  refine ⟨W.sub, fun i h h' st e => W.frame _ h h' st e, fun i s Q E hi st q => ?_, fun s Q E st q => ?_, fun i s Q E st q => W.self _ s Q E st q⟩
  · exact W.item (k + i) s Q E (by omega) st fun v h' tk hp hs hq => q v h' tk hp (by rw [Nat.add_assoc] at hs; exact hs) hq
  · rw [Nat.add_sub_of_le hk] at st
    exact W.done s Q E st q
theorem draw_walk (W : Walks prog w A I fp wr n P St) : ∀ (j i : Nat) (s : Shared) (Q : List Value → Shared → Prop) (E : Value → Shared → Prop), i + j ≤ n → St i s.heap →
    (∀ vs h' tk, vs.length = j → (∀ t v, vs[t]? = some v → P (i + t) v) → St (i + j) h' → (∀ b o, b ∉ wr → s.heap.get? b = some o → h'.get? b = some o) → Q vs { s with heap := h', toks := tk }) → wpAny (model prog w) A (draw (.ref I) j) Q E s
  | 0, i, s, Q, E, _, st, hq => by
    show wpAny _ _ (pure []) Q E s
    exact wpAny_pure (hq [] s.heap s.toks rfl (fun t v e => by simp at e) st fun _ _ _ e => e)
  | j + 1, i, s, Q, E, hl, st, hq => by
    show wpAny _ _ (pyNext (.ref I) >>= _) Q E s
    refine wpAny_bind (W.item i s _ _ (by omega) st fun v h1 tk1 hp st1 k1 => ?_)
    refine wpAny_bind (wpAny_holding (draw_walk W j (i + 1) _ _ _ (by omega) st1 fun vs h2 tk2 hv hpv st2 k2 => wpAny_pure ?_))
    refine hq (v :: vs) h2 tk2 (by rw [List.length_cons, hv]) (fun t u e => ?_) (by rw [show i + (j + 1) = i + 1 + j by omega]; exact st2) fun b o hb e => k2 b o hb (k1 b o hb e)
    cases t with
    | zero =>
      cases e
      exact hp
    | succ t =>
      have := hpv t u (by simpa using e)
      rw [show i + (t + 1) = i + 1 + t by omega]
      exact this
end
section
variable {prog : Program} {w : World} {A : Around} {E : Value → Shared → Prop} {s : Shared}
theorem items_list {items : Array Value} {k m : Nat} {vs : List Value} (hm : k + m ≤ items.size) (hl : vs.length = m) (h : ∀ t v, vs[t]? = some v → items[k + t]? = some v) : vs = (items.toList.drop k).take m := by
  refine List.ext_getElem? fun t => ?_
  by_cases z : t < m
  · have hz : t < vs.length := by omega
    rw [List.getElem?_eq_getElem hz, List.getElem?_take, if_pos z, List.getElem?_drop]
    have := h t _ (List.getElem?_eq_getElem hz)
    rw [← this]
    exact (Array.getElem?_toList ..).symm
  · rw [List.getElem?_eq_none (by omega), List.getElem?_take, if_neg z]
theorem coll_more {J : Addr} {ff ww : List Addr} {GG : Array GenState → Array GenState → Prop} {m : Nat} {PP : Nat → Value → Prop} {SS : Nat → Shared → Prop} {R : List Value → Shared → Prop} {T : String} (hh : T = "list_iterator" ∨ T = "tuple_iterator")
    (Wk : WalksS prog w A.in1 J ff ww GG m PP SS) (ty : ∀ i s, SS i s → s.TypeIs (.ref J) T) (s0 : SS 0 s) (small : ∀ b ∈ ff, b < s.heap.objs.size) (mem : J ∈ ff) (hm : m ≤ sizeLine)
    (fin : ∀ s' acc, Moved ww GG s s' → s.heap.objs.size < s'.heap.objs.size → ItemsOf PP acc m → R acc.toList s') : wpAny (model prog w) A (collect (.ref J)) R E s := by
  have nin : s.heap.objs.size ∉ ff := fun z => absurd (small _ z) (Nat.lt_irrefl _)
  have ne : s.heap.objs.size ≠ J := fun z => nin (z ▸ mem)
  have same : Builtin.List.listSameRef (.ref s.heap.objs.size) (.ref J) = false := by
    simp [Builtin.List.listSameRef, ne]
  have get1 : (s.heap.push ⟨.type "list", none, .seq ([] : List Value).toArray 0, #[]⟩).get? s.heap.objs.size = some ⟨.type "list", none, .seq ([] : List Value).toArray 0, #[]⟩ :=
    Heap.get?_push_size _ rfl
  have s1 := Wk.frame 0 s (s.heap.push ⟨.type "list", none, .seq ([] : List Value).toArray 0, #[]⟩) s.toks s0 (Nat.le_refl _)
    (fun b _ o z => Heap.get?_push_of_some _ z)
  have ty1 := ty 0 _ s1
  unfold collect
  refine wpAny_bind (wpAny_runValue (codeAny_builtin F.entry_proto_collect ?_))
  rw [Around.under_plainId F.plain_proto_collect _]
  refine wpAny_bind (m := newList []) (wpAny_newObj_type ?_)
  refine wpAny_pure ⟨plainId_quiet F.plain_list_iadd _, codeAny_builtin F.entry_list_iadd ?_⟩
  rw [Around.under_plainId F.plain_list_iadd _]
  show wpAny _ A.in1 (Builtin.List.listExtendWith (.ref s.heap.objs.size) (.ref J) (.ref s.heap.objs.size)) _ _ _
  unfold Builtin.List.listExtendWith
  refine wpAny_bind (wpAny_typeOf ty1 ?_)
  rcases hh with rfl | rfl
  · rw [if_neg (by rw [same]; decide)]
    refine wpAny_bind (Wk.self 0 _ _ _ s1 ?_)
    refine wpAny_bind (wpAny_holding ?_)
    unfold Builtin.List.listLengthHint
    refine wpAny_bind (wpAny_specialOf ty1 F.nolen_li ?_)
    show wpAny _ A.in1 (specialOf (Value.ref J) (Str.ofString "__length_hint__") >>= _) _ _ _
    refine wpAny_bind (wpAny_specialOf ty1 F.hint_li ?_)
    generalize hid : ("list_iterator.__length_hint__" : String) = id0
    wp_delta
    rw [show splitId id0 = some ("list_iterator", "__length_hint__") from by subst hid; decide +kernel]
    subst hid
    refine wpAny_bind (wpAny_isInstance (b := true) ty1 (by rw [isSubtype_type]; kernel_rfl) ?_)
    refine wpAny_pure ?_
    rw [if_neg (by decide)]
    refine wpAny_pure ⟨plainId_quiet F.plain_extend_loop _, codeAny_extend_loopS Wk hm _ nin _ m 0 _ _ _ rfl (Nat.zero_le _) s1 get1 (ItemsOf.nil PP) fun s' acc c' mv g' its => ?_⟩
    show wpAny _ A (load s.heap.objs.size >>= _) _ _ s'
    exact wpAny_bind (wpAny_load g' (wpAny_pure (fin s' acc (Moved.drop_new mv (Nat.le_refl _)) (Heap.lt_size g') its)))
  · rw [if_neg (by rw [same]; decide)]
    refine wpAny_bind (Wk.self 0 _ _ _ s1 ?_)
    refine wpAny_bind (wpAny_holding ?_)
    unfold Builtin.List.listLengthHint
    refine wpAny_bind (wpAny_specialOf ty1 F.nolen_tu ?_)
    show wpAny _ A.in1 (specialOf (Value.ref J) (Str.ofString "__length_hint__") >>= _) _ _ _
    refine wpAny_bind (wpAny_specialOf ty1 F.hint_tu ?_)
    generalize hid : ("tuple_iterator.__length_hint__" : String) = id0
    wp_delta
    rw [show splitId id0 = some ("tuple_iterator", "__length_hint__") from by subst hid; decide +kernel]
    subst hid
    refine wpAny_bind (wpAny_isInstance (b := true) ty1 (by rw [isSubtype_type]; kernel_rfl) ?_)
    refine wpAny_pure ?_
    rw [if_neg (by decide)]
    refine wpAny_pure ⟨plainId_quiet F.plain_extend_loop _, codeAny_extend_loopS Wk hm _ nin _ m 0 _ _ _ rfl (Nat.zero_le _) s1 get1 (ItemsOf.nil PP) fun s' acc c' mv g' its => ?_⟩
    show wpAny _ A (load s.heap.objs.size >>= _) _ _ s'
    exact wpAny_bind (wpAny_load g' (wpAny_pure (fin s' acc (Moved.drop_new mv (Nat.le_refl _)) (Heap.lt_size g') its)))
theorem star_items {T : String} {t : Addr} {items : Array Value} {k : Nat} {Is : Nat → Heap → Prop} {Q : List Value → Shared → Prop} (hT : T = "list_iterator" ∨ T = "tuple_iterator") (hlt : t < s.heap.objs.size) (hk : k ≤ items.size) (hz : items.size ≤ sizeLine)
    (hni : ∀ Q', Q' false s → wpAny (model prog w) A (notIterableAtAll (.ref t)) Q' E s)
    (hit : ∀ Q', Q' (.ref s.heap.objs.size) { s with heap := s.heap.push { cls := .type T, data := .fields #[.ref t, .int 0 0] } } → wpAny (model prog w) A (pyIter (.ref t)) Q' E s)
    (W : ∀ A' : Around, A'.handled = A.handled → Walks prog w A' s.heap.objs.size [s.heap.objs.size, t] [s.heap.objs.size] items.size (fun i v => items[i]? = some v) Is) (h0 : Is 0 (s.heap.push { cls := .type T, data := .fields #[.ref t, .int 0 0] }))
    (hty : ∀ i h, Is i h → ∀ s' : Shared, s'.heap = h → s'.TypeIs (.ref s.heap.objs.size) T)
    (hQ : ∀ h' tk p, (∀ b o, s.heap.get? b = some o → h'.get? b = some o) → s.heap.objs.size ≤ p → h'.get? p = some (seqObj "list" (items.toList.drop k).toArray 0) → Q ((items.toList.take k) ++ [.ref p]) { s with heap := h', toks := tk }) :
    wpAny (model prog w) A (unpackItems (.ref t) (k + 1) (some k)) Q E s := by
  unfold unpackItems
  refine wpAny_bind (hni _ ?_)
  rw [if_neg (by decide)]
  refine wpAny_bind (wpAny_holding (hit _ ?_))
  have keep : ∀ {h' : Heap}, (∀ b o, b ∉ [s.heap.objs.size] → (s.heap.push { cls := .type T, data := .fields #[.ref t, .int 0 0] }).get? b = some o → h'.get? b = some o) → ∀ b o, s.heap.get? b = some o → h'.get? b = some o :=
    fun q b o e => q b o (by simp only [List.mem_cons, List.not_mem_nil, or_false]; exact Nat.ne_of_lt (Heap.lt_size e)) (Heap.get?_push_of_some _ e)
  refine wpAny_bind (wpAny_holding (draw_walk (W A rfl) k 0 _ _ _ (by omega) h0 fun vs h1 tk1 hv hp st k1 => ?_))
  have ev : vs = items.toList.take k := by
    have := items_list (items := items) (k := 0) (m := k) (by omega) hv hp
    simpa using this
  rw [if_neg (by omega)]
  rw [Nat.zero_add] at st
  have hh1 : s.heap.objs.size < h1.objs.size := by
    obtain ⟨o, ho, _⟩ := hty k h1 st ⟨h1, s.gens, s.drawn, tk1, s.os⟩ rfl
    exact Heap.lt_size ho
  have hh2 : t < h1.objs.size := Nat.lt_trans hlt hh1
  refine wpAny_bind (wpAny_holding (coll_more (T := T) (m := items.size - k) hT (walks_from (W A.in1 rfl) k hk).toS (fun i s' st' => hty _ _ st' s' rfl) st ?_ (by simp) (by omega) fun s2 acc mv hgr hi => ?_))
  · intro b hb
    simp only [List.mem_cons, List.not_mem_nil, or_false] at hb
    rcases hb with rfl | rfl
    · exact hh1
    · exact hh2
  · obtain ⟨mk, mg, md, mo, mt⟩ := mv
    have ea : acc.toList = items.toList.drop k := by
      have := items_list (items := items) (k := k) (m := items.size - k) (vs := acc.toList) (by omega) (by rw [Array.length_toList]; exact hi.1) fun t v e => hi.2 t v (by rw [← Array.getElem?_toList]; exact e)
      rw [List.take_of_length_le (by simp)] at this
      exact this
    have hln : acc.toList.length = items.size - k := by rw [Array.length_toList]; exact hi.1
    rw [if_neg (by omega)]
    have e1 : acc.toList.take (acc.toList.length - (k + 1 - 1 - k)) = acc.toList := List.take_of_length_le (by omega)
    have e2 : acc.toList.drop (acc.toList.length - (k + 1 - 1 - k)) = [] := List.drop_eq_nil_of_le (by omega)
    show wpAny _ _ (newList (acc.toList.take (acc.toList.length - (k + 1 - 1 - k))) >>= fun l => pure (vs ++ [l] ++ acc.toList.drop (acc.toList.length - (k + 1 - 1 - k)))) _ _ _
    rw [e1, e2]
    refine wpAny_bind (wpAny_newList ?_ (by rw [hln]; omega))
    refine wpAny_pure ?_
    obtain ⟨h2, g2, d2, t2, o2⟩ := s2
    have mg : g2 = s.gens := mg
    have md : d2 = s.drawn := md
    have mo : o2 = s.os := mo
    subst mg md mo
    rw [List.append_nil, ev]
    have kk : ∀ b o, s.heap.get? b = some o → h2.get? b = some o := fun b o e => mk b o (by simp only [List.mem_cons, List.not_mem_nil, or_false]; exact Nat.ne_of_lt (Heap.lt_size e)) (keep k1 b o e)
    refine hQ (h2.push (seqObj "list" acc.toList.toArray 0)) t2 h2.objs.size (fun b o e => Heap.get?_push_of_some _ (kk b o e)) ?_ ?_
    · exact Nat.le_of_lt (Nat.lt_trans hh1 hgr)
    · rw [ea]
      exact Heap.get?_push_size _ rfl
theorem star_tuple {t : Addr} {items : Array Value} {k : Nat} {Q : List Value → Shared → Prop} (hh : A.handled = none) (ht : s.heap.IsTuple t items) (hk : k ≤ items.size) (hz : items.size ≤ sizeLine)
    (hQ : ∀ h' tk p, (∀ b o, s.heap.get? b = some o → h'.get? b = some o) → s.heap.objs.size ≤ p → h'.get? p = some (seqObj "list" (items.toList.drop k).toArray 0) → Q ((items.toList.take k) ++ [.ref p]) { s with heap := h', toks := tk }) :
    wpAny (model prog w) A (unpackItems (.ref t) (k + 1) (some k)) Q E s := by
  have hlt : t < s.heap.objs.size := by obtain ⟨o, ho, _⟩ := ht; exact Heap.lt_size ho
  refine star_items (T := "tuple_iterator") (.inr rfl) hlt hk hz (fun Q' q => ?_) (fun Q' q => PyProof.Rows.iter_tuple (t := t) (items := items) ht q) (fun A' e => Walks.tuple (e.trans hh) _ _ (Nat.ne_of_lt hlt) items) ⟨⟨_, Heap.get?_push_size _ rfl, rfl, rfl⟩, ht.push _⟩ ?_ hQ
  · unfold notIterableAtAll
    refine wpAny_bind (wpAny_specialOf ht.typeIs PyProof.Rows.slot_tuple_iter.lookup ?_)
    exact wpAny_pure q
  · rintro i h ⟨⟨o, ho, hc, hd⟩, _⟩ s' rfl
    exact ⟨o, ho, hc⟩
theorem star_list {t : Addr} {items : Array Value} {k : Nat} {Q : List Value → Shared → Prop} (hh : A.handled = none) (ht : s.heap.IsList t items) (hk : k ≤ items.size) (hz : items.size ≤ sizeLine)
    (hQ : ∀ h' tk p, (∀ b o, s.heap.get? b = some o → h'.get? b = some o) → s.heap.objs.size ≤ p → h'.get? p = some (seqObj "list" (items.toList.drop k).toArray 0) → Q ((items.toList.take k) ++ [.ref p]) { s with heap := h', toks := tk }) :
    wpAny (model prog w) A (unpackItems (.ref t) (k + 1) (some k)) Q E s := by
  have hlt : t < s.heap.objs.size := by obtain ⟨o, ho, _⟩ := ht; exact Heap.lt_size ho
  refine star_items (T := "list_iterator") (.inl rfl) hlt hk hz (fun Q' q => ?_) (fun Q' q => wpAny_pyIter_list (l := t) (items := items) ht q) (fun A' e => Walks.list (e.trans hh) _ _ (Nat.ne_of_lt hlt) items) ⟨⟨_, Heap.get?_push_size _ rfl, rfl, rfl⟩, ht.push _⟩ ?_ hQ
  · unfold notIterableAtAll
    refine wpAny_bind (wpAny_specialOf ht.typeIs slot_list_iter.lookup ?_)
    exact wpAny_pure q
  · rintro i h ⟨⟨o, ho, hc, hd⟩, _⟩ s' rfl
    exact ⟨o, ho, hc⟩
end
/-- the reading of such a target: k things ahead of the last one, which takes the rest as a new list -/
def gStar (K : PySem.W.Frag) (k : Nat) (t : TGs) : TG := fun v σ H Q => ∃ a xs, v = .ref a ∧ (SqT K H a xs ∨ SqL K H a xs) ∧ k ≤ xs.length ∧ ∀ p, H p = none → t (xs.take k ++ [.ref p]) σ (upd H p (.lst (xs.drop k))) Q
theorem pgs_star {X : Cx} {e : Expr} {es : List Expr} {t : TG} {u : TGs} {p : Pos} (h1 : PG X e t) (h2 : PGs X es u)
    (hs : (assignEach (.Starred e p :: es) X.env).map (·.2) = assign e X.env :: (assignEach es X.env).map (·.2) := by rfl) : PGs X (.Starred e p :: es) (gCons t u) := by
  refine ⟨fun pins s σ H vs us Q I r h => ?_⟩
  obtain ⟨v, vr, e1, h⟩ := h
  subst e1
  cases r with
  | cons r rr =>
    rw [hs]
    refine assignInOrder_cons (thn (h1.run pins s σ H _ _ _ I r h) fun _ s1 ⟨σ1, H1, I1, q1⟩ => ?_)
    exact h2.run pins s1 σ1 H1 _ _ Q I1 rr q1
theorem pg_star {X : Cx} {es : List Expr} {kk k : Nat} {t : TGs} {pos : Pos} (hc : X.calm = true) (h : PGs X es t) (hn : (assignEach es X.env).length = k + 1 := by rfl) (hst : (assignEach es X.env).findIdx? (·.1) = some k := by rfl) : PG X (.Tuple es kk pos) (gStar X.K k t) := by
  refine ⟨fun pins s σ H v u Q I r hw => ?_⟩
  obtain ⟨a, xs, e1, hq, hk, hw⟩ := hw
  subst e1
  cases r
  have fin : ∀ {its : List Value}, Vals xs its → ∀ h' tk p, (∀ b o, s.heap.get? b = some o → h'.get? b = some o) → s.heap.objs.size ≤ p → h'.get? p = some (seqObj "list" (its.toArray.toList.drop k).toArray 0) → its.length ≤ sizeLine →
      wpAny (model X.prog X.w) X.A (assignInOrder ((assignEach es X.env).map (·.2)) (its.toArray.toList.take k ++ [.ref p])) (fun _ s1 => ∃ σ1 H1, Inv X pins σ1 H1 s1 ∧ Q σ1 H1) X.xe { s with heap := h', toks := tk } := by
    intro its rv h' tk p keep hp hnew hlen
    have hHp : H p = none := I.hok.fresh hp
    have rd : Vals (xs.drop k) (its.drop k) := by
      exact Vals.drop k rv
    have rt : Vals (xs.take k ++ [V.ref p]) (its.toArray.toList.take k ++ [Value.ref p]) := by
      exact (Vals.take k rv).append (.cons rfl .nil)
    have I1 : Inv X pins σ (upd H p (.lst (xs.drop k))) { s with heap := h', toks := tk } := I.laid (t' := tk) keep hp ⟨by rw [List.length_drop, rv.length]; omega, its.drop k, 0, rd, hnew⟩
    exact h.run pins _ σ _ _ _ Q I1 rt (hw p hHp)
  rw [PyProof.Rows.assign_Tuple]
  refine wpAny_bind (wpAny_standAt ?_)
  unfold unpack
  rw [hn, hst]
  rcases hq with hq | hq
  · obtain ⟨its, rv, pl, hz⟩ := I.tuple hq
    refine wpAny_bind (wpAny_holding (star_tuple (I.ok.hd hc) pl ?_ ?_ fun h' tk p keep hp hnew => fin rv h' tk p keep hp hnew ?_))
    · rw [List.size_toArray, ← rv.length]; exact hk
    · rw [rv.length] at hz; simpa using hz
    · rw [rv.length] at hz; simpa using hz
  · obtain ⟨its, rv, pl, hz⟩ := I.list hq
    refine wpAny_bind (wpAny_holding (star_list (I.ok.hd hc) pl.isList ?_ ?_ fun h' tk p keep hp hnew => fin rv h' tk p keep hp hnew ?_))
    · rw [List.size_toArray, ← rv.length]; exact hk
    · rw [rv.length] at hz; simpa using hz
    · rw [rv.length] at hz; simpa using hz
end RC

namespace RC
open PySem PySem.Spec PyProof.Rows L2
/-! ### sorted: a dict's numbers, lists of numbers or texts, however many -/
def rSoDI : List V → Hp → VK → Prop := fun xs H Q => ∃ (d : Addr) (kvs : List (Key × V)) (ns : List Int), xs = [.ref d] ∧ Rd H d (.dK kvs) ∧ kvs.map (·.1) = ns.map Sum.inl ∧ ns.length ≤ 1000000 ∧
  ∀ (ys : List Int) (p : Addr), ys.Perm ns → ys.Pairwise (· ≤ ·) → H p = none → Q (.ref p) (upd H p (.lst (ys.map V.int)))
section
variable {X : Cx}
theorem so_big : 1000000 ≤ sizeLine := by rw [sizeLine_eq]; decide
theorem so_after {pins : List (Addr × Obj)} {σ : L2.St} {H : Hp} {s : Shared} {Q : VK} {h1 : Heap} {tk : Nat} {vs : List Value} {out : Array Value} {zs : List V} (I : Inv X pins σ H { s with heap := h1, toks := tk }) (rv : Vals zs out.toList) (hl : zs.length ≤ sizeLine)
    (q : ∀ p, H p = none → Q (.ref p) (upd H p (.lst zs))) :
    EP X pins σ Q (.ref h1.objs.size) { s with heap := sortedHeap (h1.push (seqObj "list" vs.toArray 0)) h1.objs.size vs out, toks := tk } := by
  have at0 : (h1.push (seqObj "list" vs.toArray 0)).get? h1.objs.size = some (seqObj "list" vs.toArray 0) := Heap.get?_push_size _ rfl
  obtain ⟨ep, hep⟩ := sortedHeap_at (vs := vs) (out := out) at0
  have new : ObjOk X.prog X.w (upd H h1.objs.size (.lst zs)) (sortedHeap (h1.push (seqObj "list" vs.toArray 0)) h1.objs.size vs out) h1.objs.size (.lst zs) :=
    ⟨hl, out.toList, ep, rv, by rw [Array.toArray_toList]; exact hep⟩
  have keep : ∀ b u, h1.get? b = some u → (sortedHeap (h1.push (seqObj "list" vs.toArray 0)) h1.objs.size vs out).get? b = some u := fun b u z => by
    have lt : b < h1.objs.size := Heap.lt_size z
    have lt2 : b < (h1.push (seqObj "list" vs.toArray 0)).objs.size := by
      rw [size_push']
      exact Nat.lt_succ_of_lt lt
    rw [sortedHeap_old (Nat.ne_of_lt lt) lt2]
    exact Heap.get?_push_of_some _ z
  have J := I.laid (t' := tk) keep (Nat.le_refl _) new
  exact ⟨.ref h1.objs.size, _, J, rfl, q _ (I.hok.fresh (Nat.le_refl _))⟩
theorem cr_soDI (calm : X.calm = true) : CallR X (.builtin "sorted") rSoDI := by
  intro pins s σ H xs us Q I r hw
  obtain ⟨d, kvs, ns, e0, hd, hks, hn, q⟩ := hw
  subst e0
  obtain ⟨u, e1, ru⟩ := vals1 r
  subst e1
  cases ru
  obtain ⟨_, lo, ws, rel, dd⟩ := dk_rd I.hok hd
  obtain ⟨ep, hat⟩ := dd.dictAt
  have key : ws.map (·.1) = ns.map Sum.inl := by rw [← rel.keys]; exact hks
  have len : ws.length = ns.length := by simpa using congrArg List.length key
  have big := so_big
  refine Calls.call_function_entry kind_sorted plain_sorted entry_sorted (args_sorted1 _) ?_
  unfold Builtin.«sorted»
  refine wpAny_bind (m := checkCount "sorted" 1 1 _) (wpAny_pure ?_)
  refine wpAny_bind (PySem.W.kdu_collect (A := X.A.in1) (PySem.W.kdl_dict (knd := mixKind X.prog X.w) (kvs := ws) (ep := ep) lo) (I.ok.hd calm) hat (by omega) fun h1 tk acc hk ha => ?_)
  have la : acc.toList.length = ns.length := by rw [Array.length_toList, ha.1, len]
  have hIs : IntsAre acc.toList ns := by
    refine ints_each la fun j v z => ?_
    obtain ⟨kk, xx, z1, z2⟩ := ha.2 j v (by rw [← Array.getElem?_toList]; exact z)
    have z3 : (ns.map Sum.inl)[j]? = some kk := by
      rw [← key, List.getElem?_map, z1]
      rfl
    rw [List.getElem?_map] at z3
    obtain ⟨y, z4, rfl⟩ := Option.map_eq_some_iff.mp z3
    rcases keyIs_shape (show keyIs (Sum.inl y) v = true from z2) with ⟨i, t, ek, ev⟩ | ⟨i, t, ek, ev⟩
    · cases ek
      exact ⟨y, t, z4, ev⟩
    · cases ek
  have I1 : Inv X pins σ H { s with heap := h1, toks := tk } := I.kept hk
  refine wpAny_bind (wpAny_newList ?_ (by omega))
  show wpAny _ _ _ _ _ { s with heap := h1.push (seqObj "list" acc.toList.toArray 0), toks := tk }
  have at0 : (h1.push (seqObj "list" acc.toList.toArray 0)).get? h1.objs.size = some (seqObj "list" acc.toList.toArray 0) := Heap.get?_push_size _ rfl
  refine wpAny_bind (wpAny_holding (wpAny_call_entry slot_list_sort ⟨_, at0, rfl⟩ entry_list_sort (list_sort_treeAny at0 hIs (by omega) fun out ys o1 o2 o3 => ⟨_, rfl, ?_⟩) (args_list_sort _)))
  refine wpAny_pure ⟨_, rfl, so_after I1 (vals_of_ints o1) ?_ fun p hp => q ys p o2 o3 hp⟩
  rw [List.length_map, o2.length_eq]
  omega
def rSoL (K : PySem.W.Frag) : List V → Hp → VK → Prop := fun vs H Q => (∃ (a : Addr) (ns : List Int), vs = [V.ref a] ∧ SqL K H a (ns.map V.int) ∧ ns.length ≤ 1000000 ∧ ∀ (ys : List Int) (p : Addr), ys.Perm ns → ys.Pairwise (· ≤ ·) → H p = none → Q (.ref p) (upd H p (.lst (ys.map V.int)))) ∨
  ∃ (a : Addr) (ns : List Str), vs = [V.ref a] ∧ SqL K H a (ns.map V.str) ∧ ns.length ≤ 1000000 ∧ ∀ (ys : List Str) (p : Addr), ys.Perm ns → sortedS ys = true → H p = none → Q (.ref p) (upd H p (.lst (ys.map V.str)))
theorem so_done {pins : List (Addr × Obj)} {σ : L2.St} {H : Hp} {s : Shared} {Q : VK} {vs : List Value} {out : Array Value} {zs : List V} (I : Inv X pins σ H s) (rv : Vals zs out.toList) (hl : zs.length ≤ sizeLine) (q : ∀ p, H p = none → Q (.ref p) (upd H p (.lst zs))) :
    EP X pins σ Q (.ref (s.heap.objs.size + 1)) { s with heap := sortedAll s.heap vs out } := by
  obtain ⟨ep, he⟩ := sortedAll_at s.heap vs out
  have J := I.laid (t' := s.toks) (fun _ _ z => sortedAll_old (vs := vs) (out := out) z) (Nat.le_succ _) (o := .lst zs) ⟨hl, out.toList, ep, rv, he⟩
  exact ⟨.ref (s.heap.objs.size + 1), _, J, rfl, q _ (I.hok.fresh (Nat.le_succ _))⟩
theorem cr_soL : CallR X (.builtin "sorted") (rSoL X.K) := by
  intro pins s σ H vs us Q I r h
  have big := so_big
  rcases h with ⟨a, ns, rfl, hs, hn, q⟩ | ⟨a, ns, rfl, hs, hn, q⟩
  · obtain ⟨its, rv, hl, _⟩ := I.list hs
    rw [Vals.ref1 r]
    have hi := rv.ints
    refine sorted_intsAny hl.isList hi (by rw [hi.length]; omega) fun out ys o1 o2 o3 => so_done I (vals_of_ints o1) ?_ fun p hp => q ys p o2 o3 hp
    rw [List.length_map, o2.length_eq]
    omega
  · obtain ⟨its, rv, hl, _⟩ := I.list hs
    rw [Vals.ref1 r]
    have l0 := rv.length
    rw [List.length_map] at l0
    refine sorted_strsAny hl.isList rv.strs (by omega) fun out ys o1 o2 o3 => so_done I (vals_of_strs o1) ?_ fun p hp => q ys p o2 o3 hp
    rw [List.length_map, o2.length_eq]
    omega
end
section
variable {κ α : Type} {K : PySem.W.Frag} {Rs : List Res} {H : Hp} {Q : VK} {v : V} {e : α → PyData}
theorem v_soLS {xs : List Str} (S : M Rs H) (h : Dq K H v (eL eS xs)) (hz : xs.length ≤ 1000000) (k : ∀ p H', M (acR K p ((srtS' xs).map eS) :: Rs) H' → Q (.ref p) H') : rSoL K [v] H Q := by
  obtain ⟨a, rfl, hs⟩ := h.lstS
  refine .inr ⟨a, xs, rfl, hs, hz, fun ys p h1 h2 hp => ?_⟩
  rw [srtS_eq h1 h2]
  exact k p _ (S.new hp).ownS
theorem v_soLI {xs : List Int} (S : M Rs H) (h : Dq K H v (eL eI xs)) (hz : xs.length ≤ 1000000) (k : ∀ p H', M (acR K p ((srt xs).map eI) :: Rs) H' → Q (.ref p) H') : rSoL K [v] H Q := by
  obtain ⟨a, rfl, hs⟩ := h.lstI
  refine .inl ⟨a, xs, rfl, hs, hz, fun ys p h1 h2 hp => ?_⟩
  rw [srt_eq h1 h2]
  exact k p _ (S.new hp).ownI
theorem d_soI {m : List (Int × α)} (D : DVs K Rs H iI e v m) (hz : (ks m).length ≤ 1000000) (k : ∀ q H', M (acR K q ((srt (ks m)).map eI) :: Rs) H' → Q (.ref q) H') : rSoDI [v] H Q := by
  obtain ⟨p, kvs, F, L, rfl, h, s, mm, t⟩ := D
  refine ⟨p, kvs, ks m, rfl, h, t.keys, hz, fun ys q hp hs hn => ?_⟩
  rw [srt_eq hp hs]
  exact k q _ (M.ownI (M.new ⟨F, L, s, mm⟩ hn))
end
end RC

namespace RC
open PySem PySem.Spec PyProof.Rows L2
/-! ### lists times numbers, walks turned about, walks with numbers, d[k] += x, index, comprehensions that change things -/
def repL {α : Type} (xs : List α) (n : Int) : List α := (List.replicate n.toNat xs).flatten
def enumF {α : Type} : Nat → List α → List (Int × α)
  | _, [] => []
  | n, x :: xs => ((n : Int), x) :: enumF (n + 1) xs
theorem enumF_len {α : Type} : ∀ (n : Nat) (xs : List α), (enumF n xs).length = xs.length
  | _, [] => rfl
  | n, x :: xs => by rw [enumF, List.length_cons, enumF_len, List.length_cons]
theorem enumF_get {α : Type} : ∀ (n : Nat) (xs : List α) (i : Nat), (enumF n xs)[i]? = xs[i]?.map fun x => (((n + i : Nat) : Int), x)
  | n, [], i => by simp [enumF]
  | n, x :: xs, 0 => by simp [enumF]
  | n, x :: xs, i + 1 => by
    rw [enumF, List.getElem?_cons_succ, List.getElem?_cons_succ, enumF_get (n + 1) xs i]
    congr 1
    funext y
    rw [show n + 1 + i = n + (i + 1) by omega]
section
variable {α β γ : Type} {e : α → PyData} {sv : α → V} {K : PySem.W.Frag} {σ : L2.St} {H : Hp} {Q : VK} {D : Ends} {Rs : List Res} {v w : V} {xs ys : List α} {p : Addr}
theorem DqAll.rep {F : Hp} {vs : List V} {ds : List PyData} (q : DqAll K F vs ds) : ∀ n : Nat, DqAll K F (List.replicate n vs).flatten (List.replicate n ds).flatten
  | 0 => .nil
  | n + 1 => by
    rw [List.replicate_succ, List.replicate_succ, List.flatten_cons, List.flatten_cons]
    exact q.app (DqAll.rep q n)
theorem rep_map {f : α → β} (n : Nat) : ((List.replicate n xs).flatten).map f = (List.replicate n (xs.map f)).flatten := by
  rw [List.map_flatten, List.map_replicate]
theorem v_repO {n : Int} (S : M Rs H) (j : Nat) (hj : Rs[j]? = some (acR K p (xs.map e))) (hk : -(2 ^ 63) ≤ n ∧ n < 2 ^ 63 ∧ xs.length * n.toNat ≤ 100000) (k : ∀ q H', M (acR K q ((repL xs n).map e) :: Rs) H' → Q (.ref q) H') : rRep (.ref p) (.int n) H Q := by
  obtain ⟨vs, S2⟩ := (S.at j hj).ex
  have S3 := S2.sp
  have hl : vs.length = xs.length := by
    have := (S3.gotAA 1 rfl).len
    simpa using this
  refine ⟨p, n, vs, rfl, rfl, S3.got 0 rfl, hk.1, hk.2.1, Nat.le_trans (by rw [hl]; exact hk.2.2) (by decide), fun q hq => k q _ ?_⟩
  have S4 : M (pt q (.lst (List.replicate n.toNat vs).flatten) :: pt p (.lst vs) :: daA K vs (xs.map e) :: Rs.eraseIdx j) (upd H q (.lst (List.replicate n.toNat vs).flatten)) := S3.new hq
  obtain ⟨F, L, ⟨l1, l2, rfl, a1, l3, l4, rfl, a2, l5, l6, rfl, ⟨rfl, dq⟩, b⟩, mm⟩ := S4
  have dq2 : DqAll K F (List.replicate n.toNat vs).flatten ((repL xs n).map e) := by
    unfold repL
    rw [rep_map]
    exact dq.rep _
  have b2 : Sat F (acR K p (xs.map e) :: Rs.eraseIdx j) (l3 ++ l6) := ⟨l3, l6, rfl, ⟨vs, l3, [], by simp, a2, rfl, dq⟩, b⟩
  obtain ⟨L', pp, sat⟩ := b2.perm (perm_at j hj).symm
  exact ⟨F, l1 ++ L', ⟨l1, L', rfl, ⟨_, l1, [], by simp, a1, rfl, dq2⟩, sat⟩, mm.perm (by simpa using List.Perm.append_left l1 pp)⟩
/-- reversed(xs) -/
theorem for_revN (f : Fl e sv) {F : α → β → (β → Prop) → Prop} {s0 : β} {KK : β → Prop} {g : TG} {tb : TS} (hf : forD F xs.reverse s0 KK) (Inv : β → L2.St → Hp → Prop) (h0 : Inv s0 σ H)
    (hrd : ∀ s σ H, Inv s σ H → Dq K H v (eL e xs))
    (hs : ∀ x s σ H (kk : β → Prop), Inv s σ H → F x s kk → g (sv x) σ H fun σ2 H2 => tb ⟨fun σ H => ∃ s', kk s' ∧ Inv s' σ H, D.rt, D.nx, fun σ H => ∃ s', kk s' ∧ Inv s' σ H⟩ σ2 H2)
    (hd : ∀ s σ H, KK s → Inv s σ H → D.nx σ H) : ItV K (fun J H1 => ForW J g tb D σ H1) [v] H := by
  obtain ⟨a, rfl, h⟩ := f.lst (hrd s0 σ H h0)
  have hrd' : ∀ s σ H, Inv s σ H → SqL K H a (xs.map sv) := fun s σ H h => by
    obtain ⟨b, eb, q⟩ := f.lst (hrd s σ H h)
    cases eb
    exact q
  have hl : (xs.map sv).length = xs.length := List.length_map _
  refine v_itV h (for_W walk_rev (fun i σ H => ∃ s, forD F (xs.reverse.drop i) s KK ∧ Inv s σ H) ⟨s0, by simpa using hf, h0⟩ (fun i σ H _ ⟨s, _, h⟩ => hrd' s σ H h) ?_ ?_)
  · rintro i u σ H H' hi ⟨s, hf, h⟩ ⟨rfl, hv⟩
    rw [hl] at hi hv
    have hi2 : i < xs.reverse.length := by rw [List.length_reverse]; exact hi
    rw [List.drop_eq_getElem_cons hi2, List.getElem_reverse] at hf
    rw [List.getElem?_map, List.getElem?_eq_getElem (by omega)] at hv
    cases hv
    exact hs _ s σ H' _ h hf
  · rintro σ H ⟨s, hf, h⟩
    rw [hl, ← List.length_reverse, List.drop_length] at hf
    exact hd s σ H hf h
/-- enumerate(xs) -/
def ItE (K : PySem.W.Frag) (R : It → Hp → Prop) : List V → Hp → Prop := fun vs H1 => ∃ a xs, vs = [.ref a] ∧ SqL K H1 a xs ∧ R (Ite K a) H1
theorem g_iEnum {ta : TA} {R : It → Hp → Prop} (k : ta σ H (ItE K R)) : iEnum K ta σ H R := k
theorem for_enum {F : Int × α → β → (β → Prop) → Prop} {vs : List V} {s0 : β} {KK : β → Prop} {a : Addr} {g : TG} {tb : TS} (hf : forD F (enumF 0 xs) s0 KK) (Inv : β → L2.St → Hp → Prop) (h0 : Inv s0 σ H)
    (hrd : ∀ s σ H, Inv s σ H → SqL K H a vs ∧ DqAll K H vs (xs.map e))
    (hs : ∀ (i : Nat) v x s σ H T (kk : β → Prop), Inv s σ H → H T = none → vs[i]? = some v → xs[i]? = some x → F ((i : Nat), x) s kk → g (.ref T) σ (upd H T (.tup [.int (i : Nat), v])) fun σ2 H2 => tb ⟨fun σ H => ∃ s', kk s' ∧ Inv s' σ H, D.rt, D.nx, fun σ H => ∃ s', kk s' ∧ Inv s' σ H⟩ σ2 H2)
    (hd : ∀ s σ H, KK s → Inv s σ H → D.nx σ H) : ForW (Ite K a) g tb D σ H := by
  have hl : vs.length = xs.length := by
    have := (hrd s0 σ H h0).2.len
    rwa [List.length_map] at this
  refine for_W walk_enum (fun i σ H => ∃ s, forD F ((enumF 0 xs).drop i) s KK ∧ Inv s σ H) ⟨s0, by simpa using hf, h0⟩ (fun i σ H _ ⟨s, _, h⟩ => (hrd s σ H h).1) ?_ ?_
  · rintro i u σ H H' hi ⟨s, hf, h⟩ ⟨T, x, y, rfl, hT, rfl, hx, hy⟩
    have hi2 : i < (enumF 0 xs).length := by rw [enumF_len]; omega
    rw [List.drop_eq_getElem_cons hi2] at hf
    have hi3 : i < xs.length := by omega
    have e0 : (enumF 0 xs)[i] = ((i : Int), xs[i]) := by
      have := enumF_get 0 xs i
      rw [List.getElem?_eq_getElem hi2, List.getElem?_eq_getElem hi3] at this
      simpa using Option.some.inj this
    rw [e0] at hf
    cases hx
    exact hs i y _ s σ H T _ h hT hy (List.getElem?_eq_getElem hi3) hf
  · rintro σ H ⟨s, hf, h⟩
    rw [hl, ← enumF_len 0, List.drop_length] at hf
    exact hd s σ H hf h
theorem for_enumN (f : Fl e sv) {F : Int × α → β → (β → Prop) → Prop} {s0 : β} {KK : β → Prop} {g : TG} {tb : TS} (hf : forD F (enumF 0 xs) s0 KK) (Inv : β → L2.St → Hp → Prop) (h0 : Inv s0 σ H)
    (hrd : ∀ s σ H, Inv s σ H → Dq K H v (eL e xs))
    (hs : ∀ (q : Int × α) s σ H T (kk : β → Prop), Inv s σ H → H T = none → F q s kk → g (.ref T) σ (upd H T (.tup [.int q.1, sv q.2])) fun σ2 H2 => tb ⟨fun σ H => ∃ s', kk s' ∧ Inv s' σ H, D.rt, D.nx, fun σ H => ∃ s', kk s' ∧ Inv s' σ H⟩ σ2 H2)
    (hd : ∀ s σ H, KK s → Inv s σ H → D.nx σ H) : ItE K (fun J H1 => ForW J g tb D σ H1) [v] H := by
  obtain ⟨a, rfl, h⟩ := f.lst (hrd s0 σ H h0)
  refine ⟨a, _, rfl, h, for_enum (vs := xs.map sv) (e := e) hf Inv h0 (fun s σ H h => ⟨?_, f.ofA xs⟩) (fun i u x s σ H T kk h hT hv hx hF => ?_) hd⟩
  · obtain ⟨b, eb, q⟩ := f.lst (hrd s σ H h)
    cases eb
    exact q
  · rw [List.getElem?_map, hx] at hv
    cases hv
    exact hs (_, x) s σ H T kk h hT hF
/-- [.. for i, x in enumerate(xs) ..] -/
theorem lc_enumN (f : Fl e sv) {te : TE} {tt : TT} {g : TG} {ws : List Nat} {F : Int × α → (Option β → Prop) → Prop} {e' : β → PyData} {KK : List β → Prop} (hf : (enumF 0 xs).length ≤ 100000 ∧ lcD F (enumF 0 xs) [] KK) (S : M Rs H) (hrd : ∀ H, M Rs H → Dq K H v (eL e xs))
    (hs : ∀ (q : Int × α) (acc : List β) E T H (kk : Option β → Prop) (N : Hp → Prop), (acc.map e').length < 100000 → M (pt T (.tup [.int q.1, sv q.2]) :: acR K E (acc.map e') :: Rs) H → F q kk →
      (∀ y H, kk (some y) → M (acR K E (acc.map e' ++ [e' y]) :: Rs) H → N H) → (∀ H, kk none → M (acR K E (acc.map e') :: Rs) H → N H) → g (.ref T) (wipe σ ws) H fun σ2 H2 => wipe σ2 ws = wipe σ ws ∧ tt σ2 H2 fun b H3 =>
      if b = true then te σ2 H3 (LcK N E) else N H3)
    (hd : ∀ E (acc : List β) H, KK acc → M (acR K E (acc.map e') :: Rs) H → Q (.ref E) H) : ItE K (fun J H1 => LcW J g tt te ws σ Q H1) [v] H := by
  obtain ⟨a, rfl, h⟩ := f.lst (hrd H S)
  obtain ⟨hz, hf⟩ := hf
  rw [enumF_len] at hz
  have hl : (xs.map sv).length = xs.length := List.length_map _
  refine ⟨a, _, rfl, h, lc_X (walk_enum (xs := xs.map sv)) (fun E i H => ∃ acc, lcD F ((enumF 0 xs).drop i) acc KK ∧ acc.length ≤ i ∧ M (acR K E (acc.map e') :: Rs) H) (fun E hE => ⟨[], by simpa using hf, Nat.le_refl _, acR_nil (S.new hE)⟩) (fun E i H _ ⟨acc, _, _, S⟩ => ?_) ?_ ?_⟩
  · obtain ⟨b, eb, q⟩ := f.lst (hrd H S.tl)
    cases eb
    exact q
  · rintro E i u H H' hi ⟨acc, hf, ha, S⟩ ⟨T, x, y, rfl, hT, rfl, hx, hy⟩
    rw [hl] at hi
    have hi2 : i < (enumF 0 xs).length := by rw [enumF_len]; omega
    rw [List.drop_eq_getElem_cons hi2] at hf
    have e0 : (enumF 0 xs)[i] = ((i : Int), xs[i]) := by
      have := enumF_get 0 xs i
      rw [List.getElem?_eq_getElem hi2, List.getElem?_eq_getElem hi] at this
      simpa using Option.some.inj this
    rw [e0] at hf
    cases hx
    have hy : (xs.map sv)[i]? = some y := hy
    rw [List.getElem?_map, List.getElem?_eq_getElem hi] at hy
    cases hy
    refine hs (_, _) acc E T _ _ _ (by rw [List.length_map]; omega) (S.new hT) hf (fun y H hk S => ⟨acc ++ [y], hk, by rw [List.length_append]; simpa using ha, by rw [List.map_append]; exact S⟩) (fun H hk S => ⟨acc, ?_, by omega, S⟩)
    simpa using hk
  · rintro E H ⟨acc, hf, ha, S⟩
    rw [hl, ← enumF_len 0, List.drop_length] at hf
    exact hd E acc H hf S
/-- a comprehension over a flat list that changes things -/
theorem lc_flS (f : Fl e sv) {te : TE} {tt : TT} {g : TG} {ws : List Nat} {F : α → γ → (Option β → γ → Prop) → Prop} {e' : β → PyData} {s0 : γ} {KK : List β → γ → Prop} (RsF : γ → List Res) (hf : xs.length ≤ 100000 ∧ lcS F xs s0 [] KK) (S : M (RsF s0) H) (hrd : ∀ s H, M (RsF s) H → Dq K H v (eL e xs))
    (hs : ∀ x (s : γ) (acc : List β) E H (kk : Option β → γ → Prop) (N : Hp → Prop), (acc.map e').length < 100000 → M (acR K E (acc.map e') :: RsF s) H → F x s kk →
      (∀ y s' H, kk (some y) s' → M (acR K E (acc.map e' ++ [e' y]) :: RsF s') H → N H) → (∀ s' H, kk none s' → M (acR K E (acc.map e') :: RsF s') H → N H) → g (sv x) (wipe σ ws) H fun σ2 H2 => wipe σ2 ws = wipe σ ws ∧ tt σ2 H2 fun b H3 =>
      if b = true then te σ2 H3 (LcK N E) else N H3)
    (hd : ∀ E (acc : List β) s H, KK acc s → M (acR K E (acc.map e') :: RsF s) H → Q (.ref E) H) : ItL K (fun J H1 => LcW J g tt te ws σ Q H1) v H := by
  obtain ⟨a, rfl, h⟩ := f.lst (hrd s0 H S)
  obtain ⟨hz, hf⟩ := hf
  have hl : (xs.map sv).length = xs.length := List.length_map _
  refine v_itL h (lc_X (walk_list (xs := xs.map sv)) (fun E i H => ∃ acc s, lcS F (xs.drop i) s acc KK ∧ acc.length ≤ i ∧ M (acR K E (acc.map e') :: RsF s) H) (fun E hE => ⟨[], s0, by simpa using hf, Nat.le_refl _, acR_nil (S.new hE)⟩) (fun E i H _ ⟨acc, s, _, _, S⟩ => ?_) ?_ ?_)
  · obtain ⟨b, eb, q⟩ := f.lst (hrd s H S.tl)
    cases eb
    exact q
  · rintro E i u H H' hi ⟨acc, s, hf, ha, S⟩ ⟨rfl, hv⟩
    rw [hl] at hi
    rw [List.drop_eq_getElem_cons hi] at hf
    rw [List.getElem?_map, List.getElem?_eq_getElem hi] at hv
    cases hv
    refine hs _ s acc E H' _ _ (by rw [List.length_map]; omega) S hf (fun y s' H hk S => ⟨acc ++ [y], s', hk, by rw [List.length_append]; simpa using ha, by rw [List.map_append]; exact S⟩) (fun s' H hk S => ⟨acc, s', ?_, by omega, S⟩)
    simpa using hk
  · rintro E H ⟨acc, s, hf, ha, S⟩
    rw [hl, List.drop_length] at hf
    exact hd E acc s H hf S
/-- d[k], for d[k] += .. -/
theorem d_gixI {m : List (Int × Int)} {n x : Int} (D : DVs K Rs H iI eI v m) (hx : lk m n = some x) (k : Q (.int x) H) : gIx K v (.int n) H Q := by
  obtain ⟨p, kvs, u, rfl, h1, h2, S2⟩ := D.at injI hx
  have := (S2.gotA 0 rfl).intV
  subst this
  exact .inr ⟨p, _, rfl, .inl ⟨kvs, Sum.inl n, h1, rfl, h2.symm⟩, k⟩
theorem v_idxBc {bs : List Bool} {b : Bool} {n : Nat} (h : Dq K H v (eL eB bs)) (h1 : bs[n]? = some b) (h2 : ∀ m, m < n → bs[m]? = some (!b)) (k : Q (.int (n : Nat)) H) : rIndex K v [.bl b] H Q := by
  obtain ⟨a, rfl, hs⟩ := flB.lst h
  refine ⟨a, bs.map V.bl, .bl b, n, .bl b, rfl, rfl, hs, rfl, ?_, by rw [List.getElem?_map, h1]; rfl, by cases b <;> rfl, fun m z hm hz => ?_, k⟩
  · rw [List.all_eq_true]
    intro x hx
    obtain ⟨c, _, rfl⟩ := List.mem_map.mp hx
    rfl
  · rw [List.getElem?_map, h2 m hm] at hz
    cases hz
    cases b <;> rfl
end
end RC

namespace RC
open PySem PySem.Spec PyProof.Rows L2
section
variable {K : PySem.W.Frag} {H : Hp} {v w : V} {Q : VK} {Rs : List Res} {σ : L2.St} {D : Ends} {α β : Type} {e : α → PyData} {xs : List α}
/-! ### wide draws -/
theorem div_okB {i j : Int} (h : 0 < j ∧ j < 2 ^ 200) : CDivW i j := wide_div (b := 200) h.1 (by omega) (by decide) (by decide)
theorem v_divB {i j : Int} (h : 0 < j ∧ j < 2 ^ 200) (k : Q (.int (i / j)) H) : uDiv (.int i) (.int j) H Q := ⟨i, j, rfl, rfl, div_okB h, k⟩
def takeB (n : Int) (k : Int → Prop) : Prop := (0 < n ∧ n < 2 ^ 120) ∧ ∀ v, 0 ≤ v → v < n → k v
theorem tkB {n : Int} {k : Int → Prop} (h : 0 < n ∧ n < 2 ^ 120) (g : ∀ v, 0 ≤ v → v < n → k v) : takeB n k := ⟨h, g⟩
/-! ### in a tuple of numbers, == [] -/
theorem v_inVI {n : Int} {xs : List Int} (h : Dq K H v (eV eI xs)) (k : Q (.bl (decide (n ∈ xs))) H) : uIn K (.int n) v H Q := by
  cases h with
  | tup a q =>
    exact .inl ⟨_, _, rfl, .inr ((flI.all q) ▸ a), rfl, flat_ints xs, by rw [inV_int]; exact k⟩
theorem v_ninVI {n : Int} {xs : List Int} (h : Dq K H v (eV eI xs)) (k : Q (.bl (!decide (n ∈ xs))) H) : uNotIn K (.int n) v H Q := by
  cases h with
  | tup a q =>
    exact .inl ⟨_, _, rfl, .inr ((flI.all q) ▸ a), rfl, flat_ints xs, by rw [inV_int]; exact k⟩
theorem eqv_nilL (xs : List α) : PyData.eqv (eL e xs) (.list []) = xs.isEmpty := by
  cases xs with
  | nil => simp [eL, PyData.eqv, PyData.eqvAll]
  | cons x xs => simp [eL, PyData.eqv, PyData.eqvAll]
theorem v_eqNil (h1 : Dq K H v (eL e xs)) (h2 : Dq K H w (.list [])) (s1 : EqOk (eL e xs)) (k : Q (.bl xs.isEmpty) H) : uEq K v w H Q := v_eqq h1 h2 s1 (by decide) (by rw [eqv_nilL]; exact k)
theorem v_neNil (h1 : Dq K H v (eL e xs)) (h2 : Dq K H w (.list [])) (s1 : EqOk (eL e xs)) (k : Q (.bl (!xs.isEmpty)) H) : uNe K v w H Q := v_neq h1 h2 s1 (by decide) (by rw [eqv_nilL]; exact k)
theorem shaped_OL (x : Option (List Int)) : EqOk (eO (eL eI) x) := by
  cases x with
  | none => rfl
  | some a => exact shaped_LI a
theorem eqv_OL (x : Option (List Int)) (y : List Int) : PyData.eqv (eO (eL eI) x) (eL eI y) = decide (x = some y) := by
  cases x with
  | none => simp [eO, eL, PyData.eqv]
  | some a =>
    have := eqvA_ints a y
    simp only [eO, eL, PyData.eqv]
    rw [this]
    by_cases z : a = y <;> simp [z]
theorem v_eqOL {x : Option (List Int)} {y : List Int} (h1 : Dq K H v (eO (eL eI) x)) (h2 : Dq K H w (eL eI y)) (k : Q (.bl (decide (x = some y))) H) : uEq K v w H Q := v_eqq h1 h2 (shaped_OL x) (shaped_LI y) (by rw [eqv_OL]; exact k)
theorem v_neOL {x : Option (List Int)} {y : List Int} (h1 : Dq K H v (eO (eL eI) x)) (h2 : Dq K H w (eL eI y)) (k : Q (.bl (!decide (x = some y))) H) : uNe K v w H Q := v_neq h1 h2 (shaped_OL x) (shaped_LI y) (by rw [eqv_OL]; exact k)
/-! ### a, b, *c = a tuple -/
theorem v_star2 {t : TGs} {d0 d1 : PyData} {r : List PyData} {QQ : L2.St → Hp → Prop} (S : M Rs H) (i : Nat) (hi : Rs[i]? = some (da K v (.tuple (d0 :: d1 :: r)))) (k : ∀ u0 u1 p H', M (acR K p r :: da K u0 d0 :: da K u1 d1 :: Rs) H' → t [u0, u1, .ref p] σ H' QQ) : gStar K 2 t v σ H QQ := by
  obtain ⟨F, L, s, m⟩ := S
  cases EnF.at i hi F L s with
  | tup h q =>
    cases q with
    | cons a q =>
      cases q with
      | @cons u1 rest _ _ b q =>
        refine ⟨_, _, rfl, .inl (m.ex.sqT h), by simp, fun p hp => ?_⟩
        have S1 : M (da K _ d0 :: da K u1 d1 :: daA K rest r :: Rs) H := ⟨F, L, ⟨[], L, rfl, ⟨rfl, a⟩, [], L, rfl, ⟨rfl, b⟩, [], L, rfl, ⟨rfl, q⟩, s⟩, m⟩
        have S2 := S1.new (o := .lst rest) hp
        have S3 : M (acR K p r :: da K _ d0 :: da K u1 d1 :: daA K rest r :: Rs) _ := S2.own fun F L s => by
          obtain ⟨l, h⟩ := s.get 2 rfl
          exact h.2
        exact k _ _ p _ (M.sub (.cons 0 rfl (.cons 0 rfl (.cons 0 rfl (.tl (.refl _))))) S3)
theorem v_star1 {t : TGs} {x : α} {r : List α} {QQ : L2.St → Hp → Prop} (S : M Rs H) (i : Nat) (hi : Rs[i]? = some (da K v (eL e (x :: r)))) (k : ∀ u0 p H', M (acR K p (r.map e) :: da K u0 (e x) :: Rs) H' → t [u0, .ref p] σ H' QQ) : gStar K 1 t v σ H QQ := by
  obtain ⟨F, L, s, m⟩ := S
  have dd := EnF.at i hi F L s
  unfold eL at dd
  rw [List.map_cons] at dd
  cases dd with
  | lst h q =>
    cases q with
    | @cons u0 rest _ _ a q =>
      refine ⟨_, _, rfl, .inr (m.ex.sqL h), by simp, fun p hp => ?_⟩
      have S1 : M (da K u0 (e x) :: daA K rest (r.map e) :: Rs) H := ⟨F, L, ⟨[], L, rfl, ⟨rfl, a⟩, [], L, rfl, ⟨rfl, q⟩, s⟩, m⟩
      have S2 := S1.new (o := .lst rest) hp
      have S3 : M (acR K p (r.map e) :: da K u0 (e x) :: daA K rest (r.map e) :: Rs) _ := S2.own fun F L s => by
        obtain ⟨l, h⟩ := s.get 1 rfl
        exact h.2
      exact k _ p _ (M.sub (.cons 0 rfl (.cons 0 rfl (.tl (.refl _)))) S3)
/-! ### enumerate of any data list -/
theorem for_enumL {F : Int × α → β → (β → Prop) → Prop} {vs : List V} {s0 : β} {KK : β → Prop} {a : Addr} {g : TG} {tb : TS} (e0 : v = .ref a) (hf : forD F (enumF 0 xs) s0 KK) (Inv : β → L2.St → Hp → Prop) (h0 : Inv s0 σ H)
    (hrd : ∀ s σ H, Inv s σ H → SqL K H a vs ∧ DqAll K H vs (xs.map e))
    (hs : ∀ (i : Nat) u (q : Int × α) s σ H T (kk : β → Prop), Inv s σ H → H T = none → vs[i]? = some u → xs[i]? = some q.2 → F q s kk → g (.ref T) σ (upd H T (.tup [.int q.1, u])) fun σ2 H2 => tb ⟨fun σ H => ∃ s', kk s' ∧ Inv s' σ H, D.rt, D.nx, fun σ H => ∃ s', kk s' ∧ Inv s' σ H⟩ σ2 H2)
    (hd : ∀ s σ H, KK s → Inv s σ H → D.nx σ H) : ItE K (fun J H1 => ForW J g tb D σ H1) [v] H := by
  subst e0
  exact ⟨a, vs, rfl, (hrd s0 σ H h0).1, for_enum hf Inv h0 hrd (fun i u x s σ H T kk h hT hv hx hF => hs i u (_, x) s σ H T kk h hT hv hx hF) hd⟩
/-! ### repr -/
theorem v_repr {d : PyData} (h : RC.Dn K H v d) (ok : AlkOk d) (k : Q (.str d.shown) H) : rReprQ K [v] H Q := ⟨v, d, rfl, h, ok.sh, ok.dp, ok.ln, k⟩
end
end RC

namespace RC
open PySem PySem.Spec PyProof.Rows L2
/-! ### a copy of any data: a def that calls itself -/
def cpOk : Nat → PyData → Prop
  | 0, d => match d with
    | .list _ => False
    | .tuple _ => False
    | .dict _ => False
    | _ => True
  | n + 1, d => match d with
    | .list ds => ds.length ≤ 1000 ∧ ∀ x ∈ ds, cpOk n x
    | .tuple ds => ds.length ≤ 1000 ∧ ∀ x ∈ ds, cpOk n x
    | .dict kvs => kvs.length ≤ 1000 ∧ (kvs.map (·.1)).Nodup ∧ ∀ p ∈ kvs, cpOk n p.2
    | _ => True
def spCp (K : PySem.W.Frag) : Nat → Sp
  | 0 => fun _ _ _ _ => False
  | n + 1 => fun vs H Q _ => ∃ (Rs : List Res) (v : V) (d : PyData) (P : PyData → Prop), vs = [v] ∧ M (da K v (eA d) :: Rs) H ∧ (cpOk n d ∧ P d) ∧ ∀ (r : PyData) (u : V) H', P r → M (da K u (eA r) :: Rs) H' → Q u H'
theorem len_cp {K : PySem.W.Frag} : ∀ (n : Nat) (vs : List V) (H : Hp) (Q : VK) (E : XK), spCp K n vs H Q E → vs.length = 1
  | 0, _, _, _, _, h => h.elim
  | n + 1, _, _, _, _, ⟨_, _, _, _, e, _⟩ => by rw [e]; rfl
def rTupL (K : PySem.W.Frag) : List V → Hp → VK → Prop := fun xs H Q => ∃ p ys, xs = [.ref p] ∧ ((SqL K H p ys ∧ ∀ l, H l = none → Q (.ref l) (upd H l (.tup ys))) ∨ (SqT K H p ys ∧ Q (.ref p) H))
theorem cr_tupL {X : Cx} : CallR X (.type "tuple") (rTupL X.K) := call_tuple_of
abbrev tIsi (K : PySem.W.Frag) (c : String) : TT := tB (tCB (uIsi K) (tCons (tVar 0) (tCons (tC (.ty c)) tNil)))
abbrev tCpy (K : PySem.W.Frag) (sp : Sp) : TS := tSeq (tIfS (tIsi K "list") (tRet (tLc (iList K (tVar 0)) (gName 1) tYes (tCall sp [] E0 (tCons (tVar 1) tNil)) [1])) tNext)
  (tSeq (tIfS (tIsi K "tuple") (tRet (tCB (rTupL K) (tCons (tLc (iTup K (tVar 0)) (gName 1) tYes (tCall sp [] E0 (tCons (tVar 1) tNil)) [1]) tNil))) tNext)
  (tSeq (tIfS (tIsi K "dict") (tRet (tFzE (tCB (rDictP K) (tCons (tLkE (tLc (iKeys (tVar 0)) (gName 2) tYes (tTup (tCons (tVar 2) (tCons (tCall sp [] E0 (tCons (tOp rIxK (tVar 0) (tVar 2)) tNil)) tNil))) [2])) tNil)))) tNext)
  (tRet (tVar 0))))
section
variable {K : PySem.W.Frag} {H : Hp} {v w : V} {Q : VK} {Rs : List Res} {σ : L2.St} {α β : Type}
theorem lc_tup {te : TE} {tt : TT} {g : TG} {ws : List Nat} {F : α → (Option β → Prop) → Prop} {e : α → PyData} {e' : β → PyData} {xs : List α} {vs : List V} {KK : List β → Prop} {a : Addr} (hf : xs.length ≤ 100000 ∧ lcD F xs [] KK) (S : M Rs H)
    (hrd : ∀ H, M Rs H → SqT K H a vs ∧ DqAll K H vs (xs.map e))
    (hs : ∀ (i : Nat) v x (acc : List β) E H (kk : Option β → Prop) (N : Hp → Prop), (acc.map e').length < 100000 → M (acR K E (acc.map e') :: Rs) H → vs[i]? = some v → xs[i]? = some x → F x kk →
      (∀ y H, kk (some y) → M (acR K E (acc.map e' ++ [e' y]) :: Rs) H → N H) → (∀ H, kk none → M (acR K E (acc.map e') :: Rs) H → N H) → g v (wipe σ ws) H fun σ2 H2 => wipe σ2 ws = wipe σ ws ∧ tt σ2 H2 fun b H3 =>
      if b = true then te σ2 H3 (LcK N E) else N H3)
    (hd : ∀ E (acc : List β) H, KK acc → M (acR K E (acc.map e') :: Rs) H → Q (.ref E) H) : LcW (Itt K a) g tt te ws σ Q H := by
  obtain ⟨hz, hf⟩ := hf
  have hl : vs.length = xs.length := by
    have := (hrd H S).2.len
    rwa [List.length_map] at this
  refine lc_X walk_tup (fun E i H => ∃ acc, lcD F (xs.drop i) acc KK ∧ acc.length ≤ i ∧ M (acR K E (acc.map e') :: Rs) H) (fun E hE => ⟨[], by simpa using hf, Nat.le_refl _, acR_nil (S.new hE)⟩) (fun E i H _ ⟨acc, _, _, S⟩ => (hrd H S.tl).1) ?_ ?_
  · rintro E i v H H' hi ⟨acc, hf, ha, S⟩ ⟨rfl, hv⟩
    have hi2 : i < xs.length := by omega
    rw [List.drop_eq_getElem_cons hi2] at hf
    refine hs i v _ acc E H' _ _ (by rw [List.length_map]; omega) S hv (List.getElem?_eq_getElem hi2) hf (fun y H hk S => ⟨acc ++ [y], hk, by rw [List.length_append]; simpa using ha, by rw [List.map_append]; exact S⟩) (fun H hk S => ⟨acc, ?_, by omega, S⟩)
    simpa using hk
  · rintro E H ⟨acc, hf, ha, S⟩
    rw [hl, List.drop_length] at hf
    exact hd E acc H hf S
/-- each thing copied is the same thing -/
theorem lcD_same : ∀ {xs : List PyData} {acc : List PyData} {ok : PyData → Prop} {k : List PyData → Prop}, (∀ x ∈ xs, ok x) → k (acc ++ xs) → lcD (fun x (kk : Option PyData → Prop) => ok x ∧ kk (some x)) xs acc k
  | [], acc, ok, k, _, h => by simpa [lcD] using h
  | x :: xs, acc, ok, k, ho, h => ⟨ho x List.mem_cons_self, lcD_same (fun y hy => ho y (List.mem_cons_of_mem _ hy)) (by simpa using h)⟩
theorem map_eA (ds : List PyData) : ds.map eA = ds := List.map_id _
theorem pure_cpL {n : Nat} {E : XK} {ds : List PyData} {P : PyData → Prop} (S0 : M (da K v (.list ds) :: Rs) H) (ok : ds.length ≤ 1000 ∧ ∀ x ∈ ds, cpOk n x) (hP : P (.list ds)) (hk : ∀ (r : PyData) (u : V) H', P r → M (da K u (eA r) :: Rs) H' → Q u H')
    : tLc (iList K (tVar 0)) (gName 1) tYes (tCall (spCp K (n + 1)) [] E0 (tCons (tVar 1) tNil)) [1] [some v, none, none] H Q := by
  refine g_lc (g_iList (g_var rfl ?_))
  obtain ⟨a, vs, ea, S1⟩ := (M.addA S0 (EnF.at 0 rfl)).openQ
  have S2 : M (rdL K a vs :: daA K vs (ds.map eA) :: da K v (.list ds) :: Rs) H := by rw [map_eA]; exact S1
  refine v_itLe ea (S2.gotR 0 rfl) ?_
  refine lc_lst (K := K) (e := eA) (e' := eA) (F := fun x kk => cpOk n x ∧ kk (some x)) (KK := fun acc => acc = ds) ⟨by omega, lcD_same ok.2 (by simp)⟩ S2 (fun _ S => ⟨S.gotR 0 rfl, S.gotAA 1 rfl⟩) (fun i u x acc E2 H2 kk N hl S3 hv hx hf hp hn => ?_) (fun E2 acc H3 e S4 => ?_)
  · have S5 := S3.elA 2 rfl hv hx
    refine g_name (g_wipe rfl (g_yes (v_ifT (g_call (g_cons (g_var rfl (g_nil ⟨_, u, x, fun r => r = x, rfl, M.addA S5 (EnF.at 0 rfl), ⟨hf.1, rfl⟩, fun r u2 H4 er S6 => ?_⟩)))))))
    subst er
    refine acR_put S6 2 rfl (EnF.at 0 rfl) hl fun H5 S7 => ?_
    exact hp _ _ hf.2 (M.sub (.cons 0 rfl (.cons 2 rfl (.cons 2 rfl (.cons 2 rfl (.tl (.tl (.refl _))))))) S7)
  · subst e
    have S8 := acR_fix S4
    rw [map_eA] at S8
    exact hk _ _ _ hP (M.sub (.cons 0 rfl (.tl (.tl (.tl (.refl _))))) S8)
/-! tuples -/
def rdT (K : PySem.W.Frag) (a : Addr) (vs : List V) : Res := ⟨fun F l => l = [] ∧ SqT K F a vs, fun _ _ _ e h => ⟨h.1, e.sqT h.2⟩⟩
theorem M.gotTu {a : Addr} {vs : List V} (S : M Rs H) (i : Nat) (e : Rs[i]? = some (rdT K a vs)) : SqT K H a vs := by
  obtain ⟨F, L, s, m⟩ := S
  obtain ⟨l, h⟩ := s.get i e
  exact m.ex.sqT h.2
theorem M.openT {ds : List PyData} (S : M (da K v (.tuple ds) :: Rs) H) : ∃ a vs, v = .ref a ∧ M (rdT K a vs :: daA K vs ds :: Rs) H := by
  obtain ⟨F, L, ⟨l1, l2, rfl, ⟨rfl, e⟩, b⟩, m⟩ := S
  cases e with
  | tup h1 h2 => exact ⟨_, _, rfl, F, l2, ⟨[], l2, rfl, ⟨rfl, h1⟩, [], l2, rfl, ⟨rfl, h2⟩, b⟩, m⟩
theorem pure_cpT {n : Nat} {ds : List PyData} {P : PyData → Prop} (S0 : M (da K v (.tuple ds) :: Rs) H) (ok : ds.length ≤ 1000 ∧ ∀ x ∈ ds, cpOk n x) (hP : P (.tuple ds)) (hk : ∀ (r : PyData) (u : V) H', P r → M (da K u (eA r) :: Rs) H' → Q u H')
    : tCB (rTupL K) (tCons (tLc (iTup K (tVar 0)) (gName 1) tYes (tCall (spCp K (n + 1)) [] E0 (tCons (tVar 1) tNil)) [1]) tNil) [some v, none, none] H Q := by
  obtain ⟨a, vs, ea, S1⟩ := (M.addA S0 (EnF.at 0 rfl)).openT
  have S2 : M (rdT K a vs :: daA K vs (ds.map eA) :: da K v (.tuple ds) :: Rs) H := by rw [map_eA]; exact S1
  refine g_cb (g_cons (g_lc (g_var rfl ⟨a, ea, ⟨vs, S2.gotTu 0 rfl⟩, ?_⟩)))
  refine lc_tup (K := K) (e := eA) (e' := eA) (F := fun x kk => cpOk n x ∧ kk (some x)) (KK := fun acc => acc = ds) ⟨by omega, lcD_same ok.2 (by simp)⟩ S2 (fun _ S => ⟨S.gotTu 0 rfl, S.gotAA 1 rfl⟩) (fun i u x acc E2 H2 kk N hl S3 hv hx hf hp hn => ?_) (fun E2 acc H3 e S4 => ?_)
  · have S5 := S3.elA 2 rfl hv hx
    refine g_name (g_wipe rfl (g_yes (v_ifT (g_call (g_cons (g_var rfl (g_nil ⟨_, u, x, fun r => r = x, rfl, M.addA S5 (EnF.at 0 rfl), ⟨hf.1, rfl⟩, fun r u2 H4 er S6 => ?_⟩)))))))
    subst er
    refine acR_put S6 2 rfl (EnF.at 0 rfl) hl fun H5 S7 => ?_
    exact hp _ _ hf.2 (M.sub (.cons 0 rfl (.cons 2 rfl (.cons 2 rfl (.cons 2 rfl (.tl (.tl (.refl _))))))) S7)
  · subst e
    have S8 := acR_fix S4
    rw [map_eA] at S8
    obtain ⟨a2, vs2, e2, S9⟩ := (M.addA S8 (EnF.at 0 rfl)).openQ
    refine g_nil ⟨a2, vs2, by rw [e2], .inl ⟨S9.gotR 0 rfl, fun l hl => ?_⟩⟩
    have S10 := S9.new (o := .tup vs2) hl
    have S11 : M (da K (.ref l) (.tuple acc) :: _) _ := S10.fixG (φ := fun F => DqAll K F vs2 acc) (R := da K (.ref l) (.tuple acc)) (fun F L s => by
      obtain ⟨l, h⟩ := s.get 1 rfl
      exact h.2) fun F q fp => ⟨rfl, .tup (.inl (.inl fp)) q⟩
    exact hk _ _ _ hP (M.sub (.cons 0 rfl (.tl (.tl (.tl (.tl (.tl (.tl (.refl _)))))))) S11)
/-! dicts -/
theorem DqKv.some_m : ∀ {kvs : List (Key × V)} {ds : List (PyData × PyData)}, DqKv K H kvs ds → ∃ m : List (Key × PyData), ds = m.map fun p => (kD (id p.1), eA p.2)
  | _, _, .nil => ⟨[], rfl⟩
  | _, _, .cons (k := k) (d := d) h r => by
    obtain ⟨m, rfl⟩ := DqKv.some_m r
    exact ⟨(k, d) :: m, rfl⟩
theorem dOf_ndG {κ γ : Type} [DecidableEq κ] {m acc : List (κ × γ)} (h : (ks (acc ++ m)).Nodup) : m.foldl (fun acc q => pk acc q.1 q.2) acc = acc ++ m := by
  induction m generalizing acc with
  | nil => simp
  | cons q m ih =>
    have hx : q.1 ∉ ks acc := by
      unfold ks at h ⊢
      rw [List.map_append, List.map_cons, List.nodup_append] at h
      exact fun z => h.2.2 _ z _ List.mem_cons_self rfl
    have e1 : pk acc q.1 q.2 = acc ++ [q] := pk_new (lk_none_iff.mpr hx)
    rw [List.foldl_cons, e1, ih (by simpa using h)]
    simp
theorem keys_same {κ γ : Type} [DecidableEq κ] {m : List (κ × γ)} (nd : (ks m).Nodup) (d : γ) : (ks m).map (fun k => (k, (lk m k).getD d)) = m := by
  unfold ks
  rw [List.map_map]
  refine (List.map_congr_left fun q hq => ?_).trans (List.map_id _)
  have := lk_of_mem nd hq
  show (q.1, (lk m q.1).getD d) = q
  rw [this]
  rfl
theorem d_ixG {α : Type} {e : α → PyData} {m : List (Key × α)} {n : Key} {x : α} (D : DVs K Rs H id e v m) (hx : lk m n = some x) (k : ∀ u, M (da K u (e x) :: Rs) H → Q u H) : rIxK v (kV n) H Q := by
  obtain ⟨p, kvs, u, rfl, h, h1, S⟩ := D.at (fun _ _ e => e) hx
  exact ⟨p, u, rfl, .inl ⟨kvs, n, h, rfl, h1.symm⟩, k u S⟩
theorem dq_key (k : Key) : Dq K H (kV k) (kD k) := by
  cases k with
  | inl i => exact .int i
  | inr x => exact .str x
theorem dq_key' {k : Key} (h : Dq K H v (kD k)) : v = kV k := by
  cases k with
  | inl i => cases h; rfl
  | inr x => cases h; rfl
theorem pure_cpD {n : Nat} {ds : List (PyData × PyData)} {P : PyData → Prop} (S0 : M (da K v (.dict ds) :: Rs) H) (ok : ds.length ≤ 1000 ∧ (ds.map (·.1)).Nodup ∧ ∀ p ∈ ds, cpOk n p.2) (hP : P (.dict ds)) (hk : ∀ (r : PyData) (u : V) H', P r → M (da K u (eA r) :: Rs) H' → Q u H')
    : tFzE (tCB (rDictP K) (tCons (tLkE (tLc (iKeys (tVar 0)) (gName 2) tYes (tTup (tCons (tVar 2) (tCons (tCall (spCp K (n + 1)) [] E0 (tCons (tOp rIxK (tVar 0) (tVar 2)) tNil)) tNil))) [2])) tNil)) [some v, none, none] H Q := by
  obtain ⟨m, rfl⟩ : ∃ m : List (Key × PyData), ds = m.map fun p => (kD (id p.1), eA p.2) := by
    obtain ⟨F, L, s, mm⟩ := S0
    cases EnF.at 0 rfl F L s with
    | dct h q => exact q.some_m
  have S0 : M (da K v (eD id eA m) :: Rs) H := S0
  have hP : P (eD id eA m) := hP
  obtain ⟨h1, h2, h3⟩ := ok
  rw [List.length_map] at h1
  have nd : (ks m).Nodup := by
    rw [List.map_map] at h2
    exact nd_of_map kD (by unfold ks; rw [List.map_map]; exact h2)
  obtain ⟨p, od, kvs, ep, hkv, S1⟩ := (M.addA S0 (EnF.at 0 rfl)).openDk
  show tCB _ _ _ _ (FzK Q)
  refine g_cb (g_cons (.inl (g_lc (g_iKeys (g_var rfl (v_itK ep (S1.gotF 0 rfl) ?_))))))
  refine lc_fz (K := K) (ik := id) (m := m) (β := Key × PyData) (e' := eP kD eA) (sv := kV) (F := fun k kk => ∃ d, lk m k = some d ∧ cpOk n d ∧ kk (some (k, d))) (KK := fun acc => acc = m) (fun _ => rfl) hkv ⟨by rw [ks_len]; omega, ?_⟩ S1 (fun _ _ S => S.gotF 0 rfl) (fun x acc E2 H2 kk N hl S3 hf hp hn => ?_) (fun E2 acc H3 e S4 => ?_)
  · refine lcD_map (fun k => (k, (lk m k).getD .none)) (fun k hk kk hkk => ?_) (by rw [List.nil_append, keys_same nd])
    obtain ⟨d, hd⟩ := lk_some hk
    rw [hd] at hkk
    exact ⟨d, hd, h3 (kD k, d) (List.mem_map.mpr ⟨(k, d), lk_mem hd, rfl⟩), hkk⟩
  · obtain ⟨d, hd, okd, hkk⟩ := hf
    refine g_name (g_wipe rfl (g_yes (v_ifT (g_tup (g_cons (g_var rfl (g_cons (g_call (g_cons (g_op (g_var rfl (g_var rfl (d_ixG (M.dvA S3 3 rfl) hd fun u S5 => ?_)))))))))))))
    refine g_nil ⟨_, u, d, fun r => r = d, rfl, S5, ⟨okd, rfl⟩, fun r u2 H4 er S6 => ?_⟩
    subst er
    refine g_nil (v_tupq (ds := [kD x, eA r]) S6 (EnF.consA (EnF.all fun _ => dq_key x) (EnF.consA (EnF.at 0 rfl) EnF.nilA)) (len_ok rfl) fun q H5 S7 => ?_)
    refine acR_put S7 2 rfl (EnF.at 0 rfl) hl fun H6 S8 => ?_
    exact hp (x, r) _ hkk (M.sub (.cons 0 rfl (.cons 2 rfl (.cons 2 rfl (.cons 2 rfl (.tl (.tl (.refl _))))))) S8)
  · subst e
    have S8 := acR_fixL S4
    refine g_nil (v_dictpG (ek := kD) (ik := id) (e := eA) (fun h => dq_key' h) (fun _ _ e => e) S8 0 rfl fun q H5 S9 => ?_)
    have e2 : dOf acc = acc := by
      have := dOf_ndG (m := acc) (acc := []) (by simpa using nd)
      simpa [dOf] using this
    rw [e2] at S9
    refine v_fzD S9 0 rfl fun H6 S10 => ?_
    exact hk _ _ _ hP (M.sub (.cons 0 rfl (.tl (.tl (.tl (.tl (.refl _)))))) S10)
/-! the whole -/
theorem pure_cp (n : Nat) (vs : List V) (H : Hp) (Q : VK) (E : XK) (N : List Str) (hN : N.length = 3) (h : spCp K (n + 1) vs H Q E) : tCpy K (spCp K n) { nx := fun _ H' => Q .non H', rt := Q } (L2.start N vs) H := by
  obtain ⟨Rs, v, d, P, rfl, S0, ⟨ok, hP⟩, hk⟩ := h
  have es : L2.start N [v] = [some v, none, none] := by
    match N, hN with
    | [_, _, _], _ => rfl
  rw [es]
  have dn : RC.Dn K H v d := Dq.dn (M.gotA S0 0 rfl)
  have no : ∀ (c : String) (t u : TS) (D : Ends), c ∈ ["int", "bool", "str", "list", "tuple", "dict"] → isA c d = false → u D [some v, none, none] H → tIfS (tIsi K c) t u D [some v, none, none] H := fun c t u D hc hi hu => by
    refine g_if (g_B (g_cb (g_cons (g_var rfl (g_cons (g_c (g_nil (v_isq dn hc hi (g_bl ?_)))))))))
    exact hu
  have yes : ∀ (c : String) (t u : TS) (D : Ends), c ∈ ["int", "bool", "str", "list", "tuple", "dict"] → isA c d = true → t D [some v, none, none] H → tIfS (tIsi K c) t u D [some v, none, none] H := fun c t u D hc hi hu => by
    refine g_if (g_B (g_cb (g_cons (g_var rfl (g_cons (g_c (g_nil (v_isq dn hc hi (g_bl ?_)))))))))
    exact hu
  have fin : isA "list" d = false → isA "tuple" d = false → isA "dict" d = false → tCpy K (spCp K n) { nx := fun _ H' => Q .non H', rt := Q } [some v, none, none] H := fun a b c => by
    refine g_seq (no "list" _ _ _ (by decide) a (g_next (g_nx ?_)))
    refine g_seq (no "tuple" _ _ _ (by decide) b (g_next (g_nx ?_)))
    refine g_seq (no "dict" _ _ _ (by decide) c (g_next (g_nx ?_)))
    exact g_ret (g_var rfl (hk d v H hP S0))
  cases d with
  | none => exact fin rfl rfl rfl
  | bool b => exact fin rfl rfl rfl
  | int i => exact fin rfl rfl rfl
  | str x => exact fin rfl rfl rfl
  | list ds =>
    cases n with
    | zero => exact ok.elim
    | succ n => exact g_seq (yes "list" _ _ _ (by decide) rfl (g_ret (pure_cpL (E := E) S0 ok hP hk)))
  | tuple ds =>
    cases n with
    | zero => exact ok.elim
    | succ n =>
      refine g_seq (no "list" _ _ _ (by decide) rfl (g_next (g_nx ?_)))
      exact g_seq (yes "tuple" _ _ _ (by decide) rfl (g_ret (pure_cpT S0 ok hP hk)))
  | dict ds =>
    cases n with
    | zero => exact ok.elim
    | succ n =>
      refine g_seq (no "list" _ _ _ (by decide) rfl (g_next (g_nx ?_)))
      refine g_seq (no "tuple" _ _ _ (by decide) rfl (g_next (g_nx ?_)))
      exact g_seq (yes "dict" _ _ _ (by decide) rfl (g_ret (pure_cpD S0 ok hP hk)))
end
end RC

namespace RC
open PySem PySem.Spec PyProof.Rows L2
/-! ### raise X() of a class whose objects keep nothing -/
section
variable {X : Cx} {x : Str} {C fI : Addr} {k : Nat} {fd : FuncData} {ps : List Str} {B newId initId : String} {bmB : List Value} {p pos pos' : Pos}
theorem mk_endN {pins : List (Addr × Obj)} {σ : L2.St} {H1 : Hp} {Q : XK} {hp hp2 h2 : Heap} {g1 g2 : Array GenState} {d1 d2 : Drawn} {t1 t2 : Nat} {os1 os2 : OsState} {a : Addr} (T : Raises X (.ref C)) (I1 : Inv X pins σ H1 ⟨hp, g1, d1, t1, os1⟩) (ha : hp.objs.size ≤ a)
    (kk : ∀ b o, hp.get? b = some o → hp2.get? b = some o) (un : Un (frs X.stack) [] (upd H1 a (exo a C none)) (upd H1 a (exo a C none)) hp2 h2) (hok : HOk X.prog X.w (upd H1 a (exo a C none)) h2) (ho : os2 = os1) (hb : AllBare g2) (q : Q (.ref C) none H1) :
    MkP X pins σ Q (.ref a) ⟨h2, g2, d2, t2, os2⟩ := by
  have ea : upd H1 a (exo a C none) a = some (exo a C none) := upd_same
  obtain ⟨t0, hoe⟩ := exo_at hok ea
  have hn : H1 a = none := I1.hok.fresh ha
  obtain ⟨G, r1, r2⟩ := restrict h2 fun b => decide (b ≠ a)
  have same : ∀ b, b ≠ a → G.get? b = h2.get? b := fun b z => r1 b (decide_eq_true z)
  have gone : G.get? a = none := r2 a (by simp)
  have ne : ∀ {b : Addr} {o : Obj}, hp.get? b = some o → b ≠ a := fun z => Nat.ne_of_lt (Nat.lt_of_lt_of_le (Heap.lt_size z) ha)
  have no : ∀ {b : Addr}, b ≠ a → H1 b = none → upd H1 a (exo a C none) b = none := fun z n => (upd_ne z).trans n
  have U : Un (frs X.stack) [] H1 H1 hp G := {
    keep := fun b o z n f e => (same b (ne z)).trans (un.keep b o (kk b o z) (no (ne z) n) f e)
    slot := fun b o z n f e => by
      rw [same b (ne z)]
      exact un.slot b o (kk b o z) (no (ne z) n) f e
    free := fun b o z n e => n
    there := fun b o z e => by
      rw [same b (ne z)]
      exact un.there b o (kk b o z) e
    tups := fun b xs z => z
    frzs := fun b o v z => z
    tbls := fun b ps z => ⟨#[], by rw [z]; simp⟩ }
  have K3 : HOk X.prog X.w H1 G := fun b o z => by
    have hba : b ≠ a := fun e => by
      rw [e, hn] at z
      cases z
    have z' : upd H1 a (exo a C none) b = some o := (upd_ne hba).trans z
    refine (hok b o z').stay (fun c v hc y => ?_) (fun c hc => ?_) (fun c xs hc => ?_)
    · rcases hc with hc | hc
      · subst hc
        rw [same c hba]
        exact y
      · have : c ≠ a := at_ne ea hc exo_own
        rw [same c this]
        exact y
    · rwa [upd_ne (at_ne ea hc exo_own)] at hc
    · rwa [upd_ne (at_ne ea hc exo_tup)] at hc
  have J : Inv X pins σ H1 ⟨G, g2, d2, t2, os2⟩ := I1.call' (ch := []) ho U K3 hb fun b z => absurd z (by simp)
  refine ⟨a, _, _, ⟨G, g2, d2, t2, os2⟩, _, .ref C, none, rfl, J, fun b o z => ?_, gone, hoe, ⟨rfl, rfl⟩, rfl, rfl, hn, rfl, hb, T, q⟩
  by_cases e : b = a
  · subst e
    rw [gone] at z
    cases z
  · rw [← same b e]
    exact z
def spX0 (C : Addr) : Sp := fun vs H Q _ => ∃ (a : Addr), vs = [.ref a] ∧ H a = some (exo a C none) ∧ Q .non H
theorem lenX0 {C : Addr} (vs : List V) (H : Hp) (Q : VK) (E : XK) (h : spX0 C vs H Q E) : vs.length = 1 := by
  obtain ⟨a, rfl, _⟩ := h
  rfl
theorem pmk_x0 {CX : CXT} (T : XcB X.K C B newId initId bmB) (iC : PySem.W.findIn X.K (.ref C) "__init__" = some (some (.ref fI))) (tI : PySem.W.typeIn X.K (.ref fI) = some (.type "function")) (F : FnX false X.prog X.w X.K X.mg X.base CX k fI fd ps (spX0 C)) (hr : Room (k + 1) X.A)
    (hb : Binds X.K fd ps []) (hx : Passes CX X (fun _ _ _ => False)) (hg : Gl X x) (hm : X.mg x = some (.ref C)) (hdb : (x == ("__debug__" : Str)) = false := by decide) : PMk X (.Call (.Name x p) [] [] pos) (fun _ H Q => Q (.ref C) none H) := by
  intro pins s σ H Q I h
  refine wpAny_Call_Name_kw (ld_glob I hg hm ?_ hdb)
  have I1 := I.tok (s.toks + 1)
  refine PySem.W.callWith_K0 I.kIn T.kC ?_
  show wpAny _ _ (call (.ref C) []) _ _ _
  obtain ⟨nm, N, qn, bs, bm, hdct, sn, sub, ab, col, dd, k0, k1, k2, k3, k5, hC, hT⟩ := PySem.W.excInit_of I.kIn T.ini
  clear I1
  obtain ⟨hp, g, dr, tk, os⟩ := s
  have hsz : hp.objs.size ≤ hp.objs.size + 1 := Nat.le_succ _
  have kk : ∀ b o, hp.get? b = some o → ((hp.push (PySem.W.kdv_tup [])).push (HandSPX.excO C hp.objs.size)).get? b = some o := fun b o z => Heap.get?_push_of_some _ (Heap.get?_push_of_some _ z)
  have hget : ((hp.push (PySem.W.kdv_tup [])).push (HandSPX.excO C hp.objs.size)).get? (hp.objs.size + 1) = some (HandSPX.excO C hp.objs.size) := by heap_get
  have I2 := I.laid (t' := tk) (a := hp.objs.size + 1) (o := exo (hp.objs.size + 1) C none) (h' := (hp.push (PySem.W.kdv_tup [])).push (HandSPX.excO C hp.objs.size)) kk hsz (exo_ok hget)
  have hq : spX0 C [V.ref (hp.objs.size + 1)] (upd H (hp.objs.size + 1) (exo (hp.objs.size + 1) C none)) (fun v H2 => v = .non ∧ H2 = upd H (hp.objs.size + 1) (exo (hp.objs.size + 1) C none)) (fun _ _ _ => False) := ⟨_, rfl, upd_same, rfl, rfl⟩
  have r2 : Vals [V.ref (hp.objs.size + 1)] [Value.ref (hp.objs.size + 1)] := .cons rfl .nil
  have hl : ([Value.ref (hp.objs.size + 1)] ++ []).length = ps.length := F.lenG _ _ _ _ hq
  have hb2 := hb ⟨(hp.push (PySem.W.kdv_tup [])).push (HandSPX.excO C hp.objs.size), g, dr, tk, os⟩ [Value.ref (hp.objs.size + 1)] I2.kIn hl
  rw [List.append_nil] at hb2
  have go := F.runG (X.A.under (.builtin "type.__call__" ⟨[.ref C], []⟩)) X.stack _ _ ⟨[Value.ref (hp.objs.size + 1)], []⟩ _ [Value.ref (hp.objs.size + 1)] _ _ (fun _ _ _ => False) (fun z => nomatch z) (hr.make C [] []) (I2.env0.make C [] []) hb2 (.refl _) r2 hq
  refine wpAny_call (HandSPX.call_own T.fb hT hC (PySem.W.looks_findIn I.kIn iC) (fun self => PySem.W.bind_fn I.kIn self tI) (Nat.zero_le _) (codeAny_mono go fun r s' hq' => ?_))
  match r, hq' with
  | .error er, hq' => exact hx pins σ _ _ er s' I2 hq'
  | .ok (.ret u), hq' =>
    obtain ⟨v, H2, os2, bare2, un2, hok2, rv, rfl, rfl⟩ := hq'
    obtain ⟨h2, g2, d2, t2, os'⟩ := s'
    exact ⟨rv, mk_endN (raises_own T.exC T.tyC) I hsz kk un2 hok2 os2 bare2 h⟩
  | .ok .next, hq' => cases hq'
  | .ok .brk, hq' => cases hq'
  | .ok .cont, hq' => cases hq'
/-- raise X() -/
def tRz0 (W : WX) (C : Addr) : TS := fun _ σ H => W (.ref C) none σ H
theorem ps_rz0 {W : WX} {CX : CXT} (hc : X.calm = true) (tk : Takes X W) (T : XcB X.K C B newId initId bmB) (iC : PySem.W.findIn X.K (.ref C) "__init__" = some (some (.ref fI))) (tI : PySem.W.typeIn X.K (.ref fI) = some (.type "function")) (F : FnX false X.prog X.w X.K X.mg X.base CX k fI fd ps (spX0 C))
    (hr : Room (k + 1) X.A) (hb : Binds X.K fd ps []) (hx : Passes CX X (fun _ _ _ => False)) (hg : Gl X x) (hm : X.mg x = some (.ref C)) (hdb : (x == ("__debug__" : Str)) = false := by decide) : PS X (.Raise (some (.Call (.Name x p) [] [] pos)) none pos') (tRz0 W C) := ps_raise hc tk (pmk_x0 T iC tI F hr hb hx hg hm hdb)
end
theorem pureX0 {K : PySem.W.Frag} {C : Addr} {msg : Str} {B newId initId : String} {bmB : List Value} {N : List Str} (hN : start N [] = [none]) (T : XcB K C B newId initId bmB) (vs : List V) (H : Hp) (Q : VK) (E : XK) (h : spX0 C vs H Q E) :
    tDrop (tXi K initId (tCons (tVar 0) (tCons (tC (.str msg)) tNil))) { nx := fun _ H' => Q .non H', rt := Q } (start N vs) H := by
  obtain ⟨a, rfl, ha, q⟩ := h
  have e : start N [V.ref a] = [some (V.ref a)] := by
    have l : N.length = 1 := by
      have := congrArg List.length hN
      simpa [L2.start] using this
    simp [L2.start, l]
  rw [e]
  exact ⟨_, rfl, a, C, [.str msg], B, newId, bmB, rfl, by simp, T, ha, q⟩
/-- nothing at all -/
def emR : Res := ⟨fun _ l => l = [], fun _ _ _ _ h => h⟩
theorem M.addE {Rs : List Res} {H : Hp} (S : M Rs H) : M (emR :: Rs) H := by
  obtain ⟨F, L, s, m⟩ := S
  exact ⟨F, L, ⟨[], L, rfl, rfl, s⟩, m⟩
section
variable {K : PySem.W.Frag} {H : Hp} {Q : VK} {a D : Addr} {b : Bool}
theorem v_isX0 {B : Addr} (c : ExcC K D) (e : PySem.W.kitOne K (.ref D) (.ref B) = some b) (k : Q (.bl b) H) : uIsX K a (.ref D) none [.ref a, .ref B] H Q := .inl ⟨.ref B, .ref B, b, rfl, ⟨D, rfl, c, .inl rfl⟩, .own B, e, k⟩
theorem v_isXT0 {B : String} (c : ExcC K D) (e : PySem.W.kitOne K (.ref D) (.type B) = some b) (k : Q (.bl b) H) : uIsX K a (.ref D) none [.ref a, .ty B] H Q := .inl ⟨.ty B, .type B, b, rfl, ⟨D, rfl, c, .inl rfl⟩, .ty B, e, k⟩
theorem v_isXs0 {tp : Addr} {cs : List V} {us : List Value} (c : ExcC K D) (ht : H tp = some (.tup cs)) (pr : Paired ClsV cs us) (e : PySem.W.kitAny K (.ref D) us = some b) (k : Q (.bl b) H) : uIsX K a (.ref D) none [.ref a, .ref tp] H Q := .inr ⟨tp, cs, us, b, rfl, ⟨D, rfl, c, .inl rfl⟩, ht, pr, e, k⟩
theorem g_rz0 {W : WX} {C : Addr} {E : Ends} {σ : L2.St} (k : W (.ref C) none σ H) : tRz0 W C E σ H := k
end
end RC

namespace RC
open PySem PySem.Spec PyProof.Rows L2
/-! ### dict displays -/
section
variable {K : PySem.W.Frag} {H : Hp} {Q : VK} {Rs : List Res} {σ : L2.St} {κ α : Type} [DecidableEq κ] {ik : κ → Key} {e : α → PyData} {p : Addr}
abbrev DispK (p : Addr) (Q : VK) : List (V × V) → Hp → Prop := fun ps H2 => H2 p = some (.dK []) ∧ ∃ kvs : List (Key × V), ps = kvs.map (fun kv => (kV kv.1, kv.2)) ∧ kvs.length ≤ 15 ∧ Q (.ref p) (upd H2 p (.dK (mergeK [] kvs)))
theorem g_disp {trs : List (TE × TE)} (S : M Rs H) (k : ∀ p H', M (pt p (.dK []) :: Rs) H' → tPairs trs σ H' (DispK p Q)) : tDisp trs σ H Q := fun p hp => k p _ (S.new hp)
theorem g_pcons {tk tv : TE} {r : List (TE × TE)} {P : List (V × V) → Hp → Prop} (k : tk σ H fun x H1 => tv σ H1 fun y H2 => tPairs r σ H2 fun ps H3 => P ((x, y) :: ps) H3) : tPairs ((tk, tv) :: r) σ H P := k
theorem g_pnil {P : List (V × V) → Hp → Prop} (k : P [] H) : tPairs [] σ H P := k
inductive Prs (K : PySem.W.Frag) (F : Hp) (ik : κ → Key) (e : α → PyData) : List (V × V) → List (κ × α) → Prop
  | nil : Prs K F ik e [] []
  | cons {k : κ} {x : α} {v : V} {r : List (V × V)} {m : List (κ × α)} (h : Dq K F v (e x)) (t : Prs K F ik e r m) : Prs K F ik e ((kV (ik k), v) :: r) ((k, x) :: m)
theorem Prs.keyed {F : Hp} : ∀ {ps : List (V × V)} {m : List (κ × α)}, Prs K F ik e ps m → ∃ kvs : List (Key × V), ps = kvs.map (fun kv => (kV kv.1, kv.2)) ∧ TKv K F ik e kvs m
  | _, _, .nil => ⟨[], rfl, .nil⟩
  | _, _, .cons (k := k) (v := v) h t => by
    obtain ⟨kvs, rfl, q⟩ := t.keyed
    exact ⟨(ik k, v) :: kvs, rfl, .cons h q⟩
theorem tk_merge {F : Hp} (inj : ∀ a b, ik a = ik b → a = b) {kvs : List (Key × V)} {m : List (κ × α)} (h : TKv K F ik e kvs m) : ∀ {kv0 : List (Key × V)} {m0 : List (κ × α)}, TKv K F ik e kv0 m0 → TKv K F ik e (mergeK kv0 kvs) (m.foldl (fun acc q => pk acc q.1 q.2) m0) := by
  induction h with
  | nil => exact fun h => h
  | cons h t ih => exact fun h0 => ih (h0.put inj h)
theorem v_disp {ps : List (V × V)} {m : List (κ × α)} (inj : ∀ a b, ik a = ik b → a = b) (S : M Rs H) (j : Nat) (hj : Rs[j]? = some (pt p (.dK []))) (h : EnF (Rs.eraseIdx j) (fun F => Prs K F ik e ps m)) (hl : ps.length ≤ 15)
    (k : ∀ H', M (adR K ik e p (dOf m) :: Rs.eraseIdx j) H' → Q (.ref p) H') : DispK p Q ps H := by
  have S1 := S.at j hj
  obtain ⟨F, L, ⟨l1, l2, rfl, a, b⟩, mm⟩ := id S1
  obtain ⟨kvs, rfl, t⟩ := (h F l2 b).keyed
  refine ⟨S1.got 0 rfl, kvs, rfl, by simpa using hl, k _ ?_⟩
  have S2 := S1.putAt (o' := .dK (mergeK [] kvs)) 0 rfl
  obtain ⟨F2, L2, ⟨l1, l2, rfl, a2, b2⟩, mm2⟩ := S2
  obtain ⟨kvs2, e2, t2⟩ := (h F2 l2 b2).keyed
  have e3 : kvs = kvs2 := by
    have inj2 : ∀ x y : Key × V, (kV x.1, x.2) = (kV y.1, y.2) → x = y := by
      rintro ⟨a, b⟩ ⟨c, d⟩ z
      have z1 := (Prod.mk.inj z).1
      have z2 := (Prod.mk.inj z).2
      dsimp only at z1 z2
      subst z2
      cases a <;> cases c <;> first | (cases z1; rfl) | cases z1
    exact List.map_inj_right inj2 |>.mp e2
  subst e3
  exact ⟨F2, _, ⟨l1, l2, rfl, ⟨_, l1, [], by simp, a2, rfl, tk_merge inj t2 .nil⟩, b2⟩, mm2⟩
theorem EnF.nilP : EnF Rs (fun F => Prs K F ik e [] []) := fun _ _ _ => .nil
theorem EnF.consP {k : κ} {x : α} {v : V} {ps : List (V × V)} {m : List (κ × α)} (h : EnF Rs (fun F => Dq K F v (e x))) (r : EnF Rs (fun F => Prs K F ik e ps m)) : EnF Rs (fun F => Prs K F ik e ((kV (ik k), v) :: ps) ((k, x) :: m)) := fun F L s => .cons (h F L s) (r F L s)
end
end RC

namespace RC
open PySem PySem.Spec PyProof.Rows L2
/-! ### f(.., k = v) and C(.., k = v), where it may raise -/
section
variable {X : Cx} {CX : CXT} {g : Bool} {k n : Nat} {f C : Addr} {fd : FuncData} {ps ks : List Str} {sp : Sp} {W : WX} {x m : Str} {p pos apos : Pos} {o e : Expr} {es : List Expr} {kws : List Keyword} {t tk : TA} {gg : List Value → List Value → List Value} {gV : List V → List V → List V}
def tCallWN (n l : Nat) (W : WX) (sp : Sp) (gV : List V → List V → List V) (t tk : TA) : TE := fun σ H Q => t σ H fun vs H2 => tk σ H2 fun zs H3 => vs.length = n ∧ zs.length = l ∧ sp (gV vs zs) H3 Q (WE W σ)
theorem pe_callWN (F : FnX g X.prog X.w X.K X.mg X.base CX k f fd ps sp) (hgu : g = true → X.A.guards = some []) (hr : Room k X.A) (hg : Gl X x) (hm : X.mg x = some (.ref f)) (hk : PySem.W.keepIn X.K (.ref f) = true) (hb : KBn X.K fd ps n ks gg gV) (hx : ∀ σ, PassesAt CX X σ (WE W σ))
    (ha : PA X (e :: es) t) (hkw : PK X kws tk) (hall : (backToKw pos (keywordEach kws X.env)).all (·.1.isSome) = true := by rfl) (hks : (backToKw pos (keywordEach kws X.env)).filterMap (·.1) = ks := by rfl) (hdb : (x == ("__debug__" : Str)) = false := by decide)
    (he : starEach (e :: es) X.env = (false, eval e X.env) :: starEach es X.env := by rfl) (hpl : ((backTo pos (starEach (e :: es) X.env)).any (·.1) || (backToKw pos (keywordEach kws X.env)).any (·.1.isNone)) = false := by rfl) :
    PE X (.Call (.Name x p) (e :: es) kws pos) (tCallWN n ks.length W sp gV t tk) := by
  constructor
  intro pins s σ H Q I h
  refine wpAny_Call_Name_kw (ld_glob I hg hm ?_ hdb)
  refine PySem.W.callWith_KW (h₀ := X.base) I.ok.mod.kin hk hall (thn (ha.run pos pins s σ H _ I h) fun us s2 ⟨vs, H2, I2, r, q2⟩ => ?_) hpl he
  refine thn (hkw.run pos pins s2 σ H2 _ I2 q2) fun ws s3 ⟨zs, H3, I3, rz, l1, l2, q3⟩ => ⟨I3.kIn, ?_⟩
  rw [hks]
  exact runWN (us := us) (vs := vs) F hgu hr hb (hx σ) I3 r rz l1 l2 q3
def tMakeWN (n l : Nat) (W : WX) (C : Addr) (sp : Sp) (gV : List V → List V → List V) (t tk : TA) : TE := fun σ H Q => t σ H fun vs H1 => tk σ H1 fun zs H2 => vs.length + 1 = n ∧ zs.length = l ∧ ∀ x dx, H2 x = none → H2 dx = none → dx ≠ x →
  sp (gV (.ref x :: vs) zs) (upd (upd H2 dx (.own x)) x (.ins C dx [])) (fun v H3 => v = .non ∧ Q (.ref x) H3) (WE W σ)
theorem runMkN {pins : List (Addr × Obj)} {σ : L2.St} {H : Hp} {s : Shared} {Q : VK} {E : XK} {us ws : List Value} {vs zs : List V} (M : Mk X.K C f) (F : FnX false X.prog X.w X.K X.mg X.base CX k f fd ps sp) (hr : Room (k + 1) X.A) (hb : KBn X.K fd ps n ks gg gV) (hx : PassesAt CX X σ E)
    (I : Inv X pins σ H s) (r : Vals vs us) (rz : Vals zs ws) (l1 : vs.length + 1 = n) (l2 : zs.length = ks.length)
    (h : ∀ x dx, H x = none → H dx = none → dx ≠ x → sp (gV (.ref x :: vs) zs) (upd (upd H dx (.own x)) x (.ins C dx [])) (fun v H2 => v = .non ∧ Q (.ref x) H2) E) :
    wpAny (model X.prog X.w) X.A (call (.ref C) us (ks.zip ws)) (EP X pins σ Q) X.xe s := by
  have hq := h (s.heap.objs.size + 1) s.heap.objs.size (I.hok.fresh (Nat.le_succ _)) (I.hok.fresh (Nat.le_refl _)) (Nat.ne_of_lt (Nat.lt_succ_self _))
  have I2 := Inv.made (C := C) I
  have r1 : Vals (V.ref (s.heap.objs.size + 1) :: vs) (Value.ref (s.heap.objs.size + 1) :: us) := .cons rfl r
  have n1 : (Value.ref (s.heap.objs.size + 1) :: us).length = n := by rw [List.length_cons, ← r.length, l1]
  have go := F.runG (X.A.under (.builtin "type.__call__" ⟨.ref C :: us, ks.zip ws⟩)) X.stack _ _ ⟨Value.ref (s.heap.objs.size + 1) :: us, ks.zip ws⟩ _ (gg (Value.ref (s.heap.objs.size + 1) :: us) ws) _ _ E (fun z => nomatch z) (hr.make C us (ks.zip ws)) (I2.env0.make C us (ks.zip ws))
    (hb.to _ (Value.ref (s.heap.objs.size + 1) :: us) ws I2.kIn n1 (rz.length.symm.trans l2)) (.refl _) (hb.rel r1 rz) hq
  refine wpAny_call (make_map (f := f) I.kIn M.makes M.init (beq_iff_eq.mp M.fn) (codeAny_mono go fun res s' hq' => ?_))
  match res, hq' with
  | .error u, hq' => exact hx pins _ _ u s' I2 hq'
  | .ok (.ret u), hq' =>
    obtain ⟨v, H', I3, rv, ev, q3⟩ := I2.after hq'
    subst ev
    exact ⟨rv, ⟨V.ref (s.heap.objs.size + 1), H', I3, rfl, q3⟩⟩
  | .ok .next, hq' => cases hq'
  | .ok .brk, hq' => cases hq'
  | .ok .cont, hq' => cases hq'
theorem pe_makeWN (M : Mk X.K C f) (F : FnX false X.prog X.w X.K X.mg X.base CX k f fd ps sp) (hr : Room (k + 1) X.A) (hg : Gl X x) (hm : X.mg x = some (.ref C)) (hb : KBn X.K fd ps n ks gg gV) (hx : ∀ σ, PassesAt CX X σ (WE W σ)) (ha : PA X (e :: es) t) (hkw : PK X kws tk)
    (hall : (backToKw pos (keywordEach kws X.env)).all (·.1.isSome) = true := by rfl) (hks : (backToKw pos (keywordEach kws X.env)).filterMap (·.1) = ks := by rfl) (hdb : (x == ("__debug__" : Str)) = false := by decide)
    (he : starEach (e :: es) X.env = (false, eval e X.env) :: starEach es X.env := by rfl) (hpl : ((backTo pos (starEach (e :: es) X.env)).any (·.1) || (backToKw pos (keywordEach kws X.env)).any (·.1.isNone)) = false := by rfl) :
    PE X (.Call (.Name x p) (e :: es) kws pos) (tMakeWN n ks.length W C sp gV t tk) := by
  constructor
  intro pins s σ H Q I h
  refine wpAny_Call_Name_kw (ld_glob I hg hm ?_ hdb)
  refine PySem.W.callWith_KW (h₀ := X.base) I.ok.mod.kin M.kp hall (thn (ha.run pos pins s σ H _ I h) fun us s1 ⟨vs, H1, I1, r, q⟩ => ?_) hpl he
  refine thn (hkw.run pos pins s1 σ H1 _ I1 q) fun ws s2 ⟨zs, H2, I2, rz, l1, l2, q2⟩ => ⟨I2.kIn, ?_⟩
  rw [hks]
  exact runMkN (us := us) (vs := vs) M F hr hb (hx σ) I2 r rz l1 l2 q2
theorem pe_makeWN0 (M : Mk X.K C f) (F : FnX false X.prog X.w X.K X.mg X.base CX k f fd ps sp) (hr : Room (k + 1) X.A) (hg : Gl X x) (hm : X.mg x = some (.ref C)) (hb : KBn X.K fd ps n ks gg gV) (hx : ∀ σ, PassesAt CX X σ (WE W σ)) (hkw : PK X kws tk)
    (hall : (backToKw pos (keywordEach kws X.env)).all (·.1.isSome) = true := by rfl) (hks : (backToKw pos (keywordEach kws X.env)).filterMap (·.1) = ks := by rfl) (hdb : (x == ("__debug__" : Str)) = false := by decide)
    (hpl : ((backTo pos (starEach [] X.env)).any (·.1) || (backToKw pos (keywordEach kws X.env)).any (·.1.isNone)) = false := by rfl) :
    PE X (.Call (.Name x p) [] kws pos) (tMakeWN n ks.length W C sp gV tNil tk) := by
  constructor
  intro pins s σ H Q I h
  refine wpAny_Call_Name_kw (ld_glob I hg hm ?_ hdb)
  refine PySem.W.callWith_KW0 (h₀ := X.base) I.ok.mod.kin M.kp hall ?_ hpl
  refine thn (hkw.run pos pins s σ H _ I h) fun ws s2 ⟨zs, H2, I2, rz, l1, l2, q2⟩ => ⟨I2.kIn, ?_⟩
  rw [hks]
  exact runMkN (us := []) (vs := []) M F hr hb (hx σ) I2 .nil rz l1 l2 q2
variable {σ : L2.St} {H : Hp} {Q : VK} {Rs : List Res} {l : Nat}
theorem g_callWN (k : t σ H fun vs H2 => tk σ H2 fun zs H3 => vs.length = n ∧ zs.length = l ∧ sp (gV vs zs) H3 Q (WE W σ)) : tCallWN n l W sp gV t tk σ H Q := k
def MakeKN (n l : Nat) (W : WX) (C : Addr) (sp : Sp) (gV : List V → List V → List V) (σ : L2.St) (Q : VK) (vs zs : List V) (H2 : Hp) : Prop := ∀ x dx, H2 x = none → H2 dx = none → dx ≠ x → sp (gV (.ref x :: vs) zs) (upd (upd H2 dx (.own x)) x (.ins C dx [])) (fun v H3 => v = .non ∧ Q (.ref x) H3) (WE W σ)
theorem g_makeWN (k : t σ H fun vs H1 => tk σ H1 fun zs H2 => vs.length + 1 = n ∧ zs.length = l ∧ MakeKN n l W C sp gV σ Q vs zs H2) : tMakeWN n l W C sp gV t tk σ H Q := k
theorem v_makeN {vs zs : List V} (S : M Rs H) (k : ∀ a dx H', M (pt a (.ins C dx []) :: pt dx (.own a) :: Rs) H' → sp (gV (.ref a :: vs) zs) H' (fun v H3 => v = .non ∧ Q (.ref a) H3) (WE W σ)) : MakeKN n l W C sp gV σ Q vs zs H := by
  intro x dx hx hd hne
  have S1 := S.new (o := .own x) hd
  exact k x dx _ (S1.new (by rw [upd_ne (Ne.symm hne)]; exact hx))
end
end RC

namespace RC
open PySem PySem.Spec PyProof.Rows L2
/-! ### things of one's own within things of one's own -/
def vr {α : Type} (T : Addr → α → Res) (v : V) (x : α) : Res := exi fun p => prp (v = .ref p) (T p x)
def vrI {α : Type} (T : Addr → α → Res) (v : V) (x : Addr × α) : Res := prp (v = .ref x.1) (T x.1 x.2)
def oref {α : Type} : Option (Addr × α) → V
  | none => .non
  | some q => .ref q.1
def oiR {α : Type} (T : Addr → α → Res) : Option (Addr × α) → Res
  | none => emR
  | some q => T q.1 q.2
def vrO {α : Type} (T : Addr → α → Res) (v : V) (x : Option (Addr × α)) : Res := prp (v = oref x) (oiR T x)
def vrD {α : Type} (K : PySem.W.Frag) (e : α → PyData) (v : V) (x : α) : Res := da K v (e x)
def starR {α : Type} (A : V → α → Res) : List V → List α → Res
  | [], [] => emR
  | v :: vs, x :: xs => sp2 (A v x) (starR A vs xs)
  | _, _ => prp False emR
/-- a list of one's own of things of one's own -/
def lsR {α : Type} (A : V → α → Res) (p : Addr) (xs : List α) : Res := exi fun vs => sp2 (pt p (.lst vs)) (starR A vs xs)
/-- some values, things of one's own, each of its kind -/
def q1R {α : Type} (A : V → α → Res) (vs : List V) (x : α) : Res := exi fun u => prp (vs = [u]) (A u x)
def qcR {α β : Type} (A : V → α → Res) (Q : List V → β → Res) (vs : List V) (x : α × β) : Res := exi fun u => exi fun us => prp (vs = u :: us) (sp2 (A u x.1) (Q us x.2))
def tuR {α : Type} (Q : List V → α → Res) (p : Addr) (x : α) : Res := exi fun vs => sp2 (pt p (.tup vs)) (Q vs x)
def liR {α : Type} (Q : List V → α → Res) (p : Addr) (x : α) : Res := exi fun vs => sp2 (pt p (.lst vs)) (Q vs x)
section
variable {K : PySem.W.Frag} {α β γ δ : Type} {Rs : List Res} {H : Hp} {A : V → α → Res} {B : V → β → Res} {C : V → γ → Res} {D : V → δ → Res} {T : Addr → α → Res} {p : Addr} {Q : VK}
theorem oref_some {x : Option (Addr × α)} {y : Addr × α} (h : x = some y) : oref x = V.ref y.1 := by rw [h]; rfl
theorem oref_none {x : Option (Addr × α)} (h : x = none) : oref x = V.non := by rw [h]; rfl
theorem M.vrC {x : α} (S : M (T p x :: Rs) H) : M (vr T (.ref p) x :: Rs) H := M.ex' p (M.pr' rfl S)
theorem M.vrO {x : α} {v : V} (S : M (vr T v x :: Rs) H) : ∃ p, v = .ref p ∧ M (T p x :: Rs) H := by
  obtain ⟨p, S⟩ := S.ex
  exact ⟨p, S.pr⟩
theorem M.oiC {R0 : List Res} {x : Option (Addr × α)} {y : Addr × α} (S : M R0 H) (i : Nat) (e : R0[i]? = some (oiR T x)) (h : x = some y) : M (T y.1 y.2 :: R0.eraseIdx i) H := by
  subst h
  exact S.at i e
/-! lists -/
theorem M.emp (S : M (emR :: Rs) H) : M Rs H := S.tl
theorem starR_len : ∀ {vs : List V} {xs : List α} {Rs : List Res}, M (starR A vs xs :: Rs) H → vs.length = xs.length
  | [], [], _, _ => rfl
  | v :: vs, x :: xs, _, S => by
    have := starR_len (S.sp.at 1 rfl)
    simp [this]
  | [], _ :: _, _, S => (S.pr).1.elim
  | _ :: _, [], _, S => (S.pr).1.elim
theorem starR_open : ∀ {vs : List V} {xs : List α} {Rs : List Res} {n : Nat} {x : α}, M (starR A vs xs :: Rs) H → xs[n]? = some x → ∃ u, vs[n]? = some u ∧ M (A u x :: starR A (vs.eraseIdx n) (xs.eraseIdx n) :: Rs) H
  | [], [], _, n, x, _, h => by simp at h
  | [], _ :: _, _, _, _, S, _ => (S.pr).1.elim
  | _ :: _, [], _, _, _, S, _ => (S.pr).1.elim
  | v :: vs, y :: xs, Rs, 0, x, S, h => by
    cases (Option.some.inj (show some y = some x from h))
    exact ⟨v, rfl, S.sp⟩
  | v :: vs, y :: xs, Rs, n + 1, x, S, h => by
    obtain ⟨u, hu, S2⟩ := starR_open (n := n) (x := x) (S.sp.at 1 rfl) (by simpa using h)
    refine ⟨u, by simpa using hu, ?_⟩
    have S3 : M (sp2 (A v y) (starR A (vs.eraseIdx n) (xs.eraseIdx n)) :: A u x :: Rs) H := M.sp' (M.sub (.cons 2 rfl (.cons 1 rfl (.refl _))) S2)
    exact M.sub (.cons 1 rfl (.refl _)) S3
theorem starR_close : ∀ {vs : List V} {xs : List α} {Rs : List Res} {n : Nat} {u : V} {y : α}, vs[n]? = some u → n < xs.length → M (A u y :: starR A (vs.eraseIdx n) (xs.eraseIdx n) :: Rs) H → M (starR A vs (xs.set n y) :: Rs) H
  | [], _, _, n, u, y, h, _, _ => by simp at h
  | _ :: _, [], _, _, _, _, _, h, _ => by simp at h
  | v :: vs, x :: xs, Rs, 0, u, y, h, hl, S => by
    cases (Option.some.inj (show some v = some u from h))
    exact S.sp'
  | v :: vs, x :: xs, Rs, n + 1, u, y, h, hl, S => by
    have S2 : M (sp2 (A v x) (starR A (vs.eraseIdx n) (xs.eraseIdx n)) :: A u y :: Rs) H := M.sub (.cons 1 rfl (.refl _)) S
    have S3 := starR_close (vs := vs) (xs := xs) (n := n) (u := u) (y := y) (Rs := A v x :: Rs) (by simpa using h) (by simpa using hl) (M.sub (.cons 2 rfl (.cons 1 rfl (.refl _))) S2.sp)
    exact M.sp' (M.sub (.cons 1 rfl (.refl _)) S3)
theorem starR_put : ∀ {vs : List V} {xs : List α} {Rs : List Res} {u : V} {y : α}, M (A u y :: starR A vs xs :: Rs) H → M (starR A (vs ++ [u]) (xs ++ [y]) :: Rs) H
  | [], [], _, u, y, S => M.sp' S
  | [], _ :: _, _, _, _, S => ((S.at 1 rfl).pr).1.elim
  | _ :: _, [], _, _, _, S => ((S.at 1 rfl).pr).1.elim
  | v :: vs, x :: xs, Rs, u, y, S => by
    have S2 := (S.at 1 rfl).sp
    have S3 := starR_put (vs := vs) (xs := xs) (u := u) (y := y) (Rs := A v x :: Rs) (M.sub (.cons 2 rfl (.cons 1 rfl (.cons 0 rfl (.refl _)))) S2)
    exact M.sp' (M.sub (.cons 1 rfl (.refl _)) S3)
/-- xs[i] of a list of things of one's own: it is taken out -/
theorem v_ixLs {xs : List α} {i : Int} {x : α} {n : Nat} (S : M Rs H) (j : Nat) (hj : Rs[j]? = some (lsR A p xs)) (hn : ixN xs.length i = some n) (hx : xs[n]? = some x)
    (k : ∀ u vs, vs[n]? = some u → M (A u x :: pt p (.lst vs) :: starR A (vs.eraseIdx n) (xs.eraseIdx n) :: Rs.eraseIdx j) H → Q u H) : uIx K (.ref p) (.int i) H Q := by
  obtain ⟨vs, S1⟩ := (S.at j hj).ex
  have S2 := S1.sp
  have hl := starR_len (S2.at 1 rfl)
  obtain ⟨u, hu, S3⟩ := starR_open (S2.at 1 rfl) hx
  have S4 : M (A u x :: pt p (.lst vs) :: starR A (vs.eraseIdx n) (xs.eraseIdx n) :: Rs.eraseIdx j) H := M.sub (.cons 0 rfl (.cons 1 rfl (.refl _))) S3
  exact v_ixL (SqL.of (S4.got 1 rfl)) (atI_of (by rw [hl]; exact hn) hu) (k u vs hu S4)
theorem lsR_close {vs : List V} {xs : List α} {n : Nat} {u : V} {x y : α} (hv : vs[n]? = some u) (hx : xs[n]? = some x) (S : M (A u y :: pt p (.lst vs) :: starR A (vs.eraseIdx n) (xs.eraseIdx n) :: Rs) H) : M (lsR A p (xs.set n y) :: Rs) H := by
  have hl : n < xs.length := by
    cases Nat.lt_or_ge n xs.length with
    | inl h => exact h
    | inr h => rw [List.getElem?_eq_none h] at hx; cases hx
  have S2 := starR_close (Rs := pt p (.lst vs) :: Rs) hv hl (M.sub (.cons 0 rfl (.cons 1 rfl (.refl _))) S)
  exact M.ex' vs (M.sp' (M.sub (.cons 1 rfl (.refl _)) S2))
theorem v_lenLs {xs : List α} (S : M Rs H) (j : Nat) (hj : Rs[j]? = some (lsR A p xs)) (k : Q (.int (xs.length : Nat)) H) : uLen K [.ref p] H Q := by
  obtain ⟨vs, S1⟩ := (S.at j hj).ex
  have S2 := S1.sp
  have hl := starR_len (S2.at 1 rfl)
  exact v_lenL (SqL.of (S2.got 0 rfl)) (by rw [hl]; exact k)
theorem M.tyLs {xs : List α} {φ : Prop} (S : M Rs H) (j : Nat) (hj : Rs[j]? = some (lsR A p xs)) (k : φ) : tyV K "list" (.ref p) H ∧ φ := by
  obtain ⟨vs, S1⟩ := (S.at j hj).ex
  exact v_tyL (SqL.of (S1.sp.got 0 rfl)) k
/-- append: the thing is in the list from now on -/
theorem v_apLs {xs : List α} {u : V} {y : α} (S : M (A u y :: lsR A p xs :: Rs) H) (hz : xs.length < 100000) (k : ∀ H', M (lsR A p (xs ++ [y]) :: Rs) H' → Q .non H') : rAppend (.ref p) [u] H Q := by
  obtain ⟨vs, S1⟩ := (S.at 1 rfl).ex
  have S2 := S1.sp
  have hl := starR_len (S2.at 1 rfl)
  refine v_app S2 0 rfl (by rw [hl]; exact hz) fun H' S4 => k H' ?_
  have S5 : M (A u y :: starR A vs xs :: pt p (.lst (vs ++ [u])) :: Rs) H' := M.sub (.cons 2 rfl (.cons 1 rfl (.refl _))) S4
  exact M.ex' _ (M.sp' (M.sub (.cons 1 rfl (.refl _)) (starR_put S5)))
theorem lsR_nil (S : M (pt p (.lst []) :: Rs) H) : M (lsR A p [] :: Rs) H := M.ex' [] (M.sp' (M.sub (.cons 1 rfl (.refl _)) S.addE))
theorem lsR_1 {u : V} {x : α} (S : M (pt p (.lst [u]) :: A u x :: Rs) H) : M (lsR A p [x] :: Rs) H := by
  have S1 : M (emR :: A u x :: pt p (.lst [u]) :: Rs) H := (M.sub (.cons 1 rfl (.refl _)) S).addE
  have S2 : M (starR A [u] [x] :: pt p (.lst [u]) :: Rs) H := M.sp' (M.sub (.cons 1 rfl (.refl _)) S1)
  exact M.ex' [u] (M.sp' (M.sub (.cons 1 rfl (.refl _)) S2))
theorem lsR_2 {u w : V} {x y : α} (S : M (pt p (.lst [u, w]) :: A u x :: A w y :: Rs) H) : M (lsR A p [x, y] :: Rs) H := by
  have S1 : M (emR :: A w y :: A u x :: pt p (.lst [u, w]) :: Rs) H := (M.sub (.cons 2 rfl (.cons 1 rfl (.refl _))) S).addE
  have S2 : M (starR A [w] [y] :: A u x :: pt p (.lst [u, w]) :: Rs) H := M.sp' (M.sub (.cons 1 rfl (.refl _)) S1)
  have S3 : M (starR A [u, w] [x, y] :: pt p (.lst [u, w]) :: Rs) H := M.sp' (M.sub (.cons 1 rfl (.refl _)) S2)
  exact M.ex' [u, w] (M.sp' (M.sub (.cons 1 rfl (.refl _)) S3))
/-! tuples, lists of a fixed form -/
theorem M.h1C {u : V} {x : α} (S : M (A u x :: Rs) H) : M (q1R A [u] x :: Rs) H := M.ex' u (M.pr' rfl S)
theorem M.h1O {vs : List V} {x : α} (S : M (q1R A vs x :: Rs) H) : ∃ u, vs = [u] ∧ M (A u x :: Rs) H := by
  obtain ⟨u, S⟩ := S.ex
  exact ⟨u, S.pr⟩
theorem M.hcC {P : List V → β → Res} {u : V} {us : List V} {x : α} {y : β} (S : M (A u x :: P us y :: Rs) H) : M (qcR A P (u :: us) (x, y) :: Rs) H := M.ex' u (M.ex' us (M.pr' rfl S.sp'))
theorem M.hcO {P : List V → β → Res} {vs : List V} {x : α × β} (S : M (qcR A P vs x :: Rs) H) : ∃ u us, vs = u :: us ∧ M (A u x.1 :: P us x.2 :: Rs) H := by
  obtain ⟨u, S⟩ := S.ex
  obtain ⟨us, S⟩ := S.ex
  obtain ⟨e, S⟩ := S.pr
  exact ⟨u, us, e, S.sp⟩
theorem M.hq2C {u w : V} {x : α} {y : β} (S : M (A u x :: B w y :: Rs) H) : M (qcR A (q1R B) [u, w] (x, y) :: Rs) H := M.hcC (M.sub (.cons 1 rfl (.refl _)) (M.h1C (M.sub (.cons 1 rfl (.refl _)) S)))
theorem M.hq2O {vs : List V} {x : α × β} (S : M (qcR A (q1R B) vs x :: Rs) H) : ∃ u w, vs = [u, w] ∧ M (A u x.1 :: B w x.2 :: Rs) H := by
  obtain ⟨u, us, rfl, S1⟩ := S.hcO
  obtain ⟨w, rfl, S2⟩ := (S1.at 1 rfl).h1O
  exact ⟨u, w, rfl, S2.at 1 rfl⟩
theorem M.hq3C {u w z : V} {x : α} {y : β} {q : γ} (S : M (A u x :: B w y :: C z q :: Rs) H) : M (qcR A (qcR B (q1R C)) [u, w, z] (x, y, q) :: Rs) H := M.hcC (M.sub (.cons 1 rfl (.refl _)) (M.hq2C (M.sub (.cons 1 rfl (.cons 1 rfl (.refl _))) S)))
theorem M.hq3O {vs : List V} {x : α × β × γ} (S : M (qcR A (qcR B (q1R C)) vs x :: Rs) H) : ∃ u w z, vs = [u, w, z] ∧ M (A u x.1 :: B w x.2.1 :: C z x.2.2 :: Rs) H := by
  obtain ⟨u, us, rfl, S1⟩ := S.hcO
  obtain ⟨w, z, rfl, S2⟩ := (S1.at 1 rfl).hq2O
  exact ⟨u, w, z, rfl, S2.at 2 rfl⟩
theorem M.hq4C {u w z t : V} {x : α} {y : β} {q : γ} {r : δ} (S : M (A u x :: B w y :: C z q :: D t r :: Rs) H) : M (qcR A (qcR B (qcR C (q1R D))) [u, w, z, t] (x, y, q, r) :: Rs) H := M.hcC (M.sub (.cons 1 rfl (.refl _)) (M.hq3C (M.sub (.cons 1 rfl (.cons 1 rfl (.cons 1 rfl (.refl _)))) S)))
theorem M.hq4O {vs : List V} {x : α × β × γ × δ} (S : M (qcR A (qcR B (qcR C (q1R D))) vs x :: Rs) H) : ∃ u w z t, vs = [u, w, z, t] ∧ M (A u x.1 :: B w x.2.1 :: C z x.2.2.1 :: D t x.2.2.2 :: Rs) H := by
  obtain ⟨u, us, rfl, S1⟩ := S.hcO
  obtain ⟨w, z, t, rfl, S2⟩ := (S1.at 1 rfl).hq3O
  exact ⟨u, w, z, t, rfl, S2.at 3 rfl⟩
theorem M.tuC {P : List V → α → Res} {vs : List V} {x : α} (S : M (P vs x :: pt p (.tup vs) :: Rs) H) : M (tuR P p x :: Rs) H := M.ex' vs (M.sp' (M.sub (.cons 1 rfl (.refl _)) S))
theorem M.tuO {P : List V → α → Res} {x : α} (S : M (tuR P p x :: Rs) H) : ∃ vs, M (P vs x :: pt p (.tup vs) :: Rs) H := by
  obtain ⟨vs, S⟩ := S.ex
  exact ⟨vs, S.sp.at 1 rfl⟩
theorem M.liC {P : List V → α → Res} {vs : List V} {x : α} (S : M (P vs x :: pt p (.lst vs) :: Rs) H) : M (liR P p x :: Rs) H := M.ex' vs (M.sp' (M.sub (.cons 1 rfl (.refl _)) S))
theorem M.liO {P : List V → α → Res} {x : α} (S : M (liR P p x :: Rs) H) : ∃ vs, M (P vs x :: pt p (.lst vs) :: Rs) H := by
  obtain ⟨vs, S⟩ := S.ex
  exact ⟨vs, S.sp.at 1 rfl⟩
/-! None, or an instance -/
theorem v_isOi {x : Option (Addr × α)} (k : Q (.bl x.isNone) H) : rIsN (oref x) .non H Q := by
  refine v_isN ?_
  cases x with
  | none => exact k
  | some y => exact k
theorem v_notOi {x : Option (Addr × α)} (k : Q (.bl (!x.isNone)) H) : rNotN (oref x) .non H Q := by
  refine v_notN ?_
  cases x with
  | none => exact k
  | some y => exact k
end
end RC

namespace RC
open PySem PySem.Spec PyProof.Rows L2
/-! ### dicts of one's own of things of one's own -/
section
variable {κ α : Type} [DecidableEq κ]
theorem atKey {m : List (κ × α)} {k : κ} {x : α} (h : lk m k = some x) : ∃ n : Nat, m[n]? = some (k, x) := by
  obtain ⟨n, hn, e⟩ := List.getElem_of_mem (lk_mem h)
  exact ⟨n, by rw [List.getElem?_eq_getElem hn, e]⟩
theorem ndAt {m : List (κ × α)} {k : κ} {x : α} {n : Nat} (nd : (ks m).Nodup) (h : m[n]? = some (k, x)) : lk m k = some x := lk_of_mem nd (List.mem_of_getElem? h)
theorem pkAt : ∀ {m : List (κ × α)} {k : κ} {x y : α} {n : Nat}, (ks m).Nodup → m[n]? = some (k, x) → pk m k y = m.set n (k, y)
  | [], k, x, y, n, _, h => by simp at h
  | q :: m, k, x, y, 0, nd, h => by
    cases (Option.some.inj (show some q = some (k, x) from h))
    have nd' := List.nodup_cons.mp (show (k :: ks m).Nodup from nd)
    unfold pk
    rw [if_pos (by simp), List.map_cons, if_pos rfl, List.set_cons_zero]
    congr 1
    refine (List.map_congr_left fun p hp => ?_).trans (List.map_id _)
    have : p.1 ≠ k := fun z => nd'.1 (by rw [← z]; exact List.mem_map.mpr ⟨p, hp, rfl⟩)
    rw [if_neg this]
    rfl
  | q :: m, k, x, y, n + 1, nd, h => by
    have nd' := List.nodup_cons.mp (show (q.1 :: ks m).Nodup from nd)
    have h' : m[n]? = some (k, x) := by simpa using h
    have hk : q.1 ≠ k := fun z => nd'.1 (by rw [z]; exact List.mem_map.mpr ⟨_, List.mem_of_getElem? h', rfl⟩)
    have ih := pkAt (y := y) nd'.2 h'
    have hm := ndAt nd'.2 h'
    unfold pk at ih ⊢
    rw [any_lk, hm] at ih
    rw [any_lk, lk_cons, if_neg hk, hm]
    rw [if_pos (by rfl)] at ih ⊢
    rw [List.map_cons, if_neg hk, ih, List.set_cons_succ]
theorem dkAt : ∀ {m : List (κ × α)} {k : κ} {x : α} {n : Nat}, (ks m).Nodup → m[n]? = some (k, x) → dk m k = m.eraseIdx n
  | [], k, x, n, _, h => by simp at h
  | q :: m, k, x, 0, nd, h => by
    cases (Option.some.inj (show some q = some (k, x) from h))
    have nd' := List.nodup_cons.mp (show (k :: ks m).Nodup from nd)
    unfold dk
    rw [List.filter_cons_of_neg (by simp), List.eraseIdx_cons_zero]
    refine List.filter_eq_self.mpr fun p hp => ?_
    exact decide_eq_true fun z => nd'.1 (by rw [← z]; exact List.mem_map.mpr ⟨p, hp, rfl⟩)
  | q :: m, k, x, n + 1, nd, h => by
    have nd' := List.nodup_cons.mp (show (q.1 :: ks m).Nodup from nd)
    have h' : m[n]? = some (k, x) := by simpa using h
    have hk : q.1 ≠ k := fun z => nd'.1 (by rw [z]; exact List.mem_map.mpr ⟨_, List.mem_of_getElem? h', rfl⟩)
    have ih := dkAt nd'.2 h'
    unfold dk at ih ⊢
    rw [List.filter_cons_of_pos (by simpa using hk), ih, List.eraseIdx_cons_succ]
end
def starK {κ α : Type} (ik : κ → Key) (A : V → α → Res) : List (Key × V) → List (κ × α) → Res
  | [], [] => emR
  | kv :: kvs, q :: m => sp2 (prp (kv.1 = ik q.1) (A kv.2 q.2)) (starK ik A kvs m)
  | _, _ => prp False emR
def dvR {κ α : Type} (ik : κ → Key) (A : V → α → Res) (p : Addr) (m : List (κ × α)) : Res := exi fun kvs => prp (ks m).Nodup (sp2 (pt p (.dK kvs)) (starK ik A kvs m))
section
variable {K : PySem.W.Frag} {κ α : Type} {Rs : List Res} {H : Hp} {A : V → α → Res} {ik : κ → Key} {p : Addr} {Q : VK}
theorem starK_keys : ∀ {kvs : List (Key × V)} {m : List (κ × α)} {Rs : List Res}, M (starK ik A kvs m :: Rs) H → kvs.map (·.1) = (ks m).map ik
  | [], [], _, _ => rfl
  | kv :: kvs, q :: m, _, S => by
    have := starK_keys (S.sp.at 1 rfl)
    have e := (S.sp).pr.1
    simp only [ks, List.map_cons] at this ⊢
    rw [e, this]
  | [], _ :: _, _, S => (S.pr).1.elim
  | _ :: _, [], _, S => (S.pr).1.elim
theorem starK_open : ∀ {kvs : List (Key × V)} {m : List (κ × α)} {Rs : List Res} {n : Nat} {k : κ} {x : α}, M (starK ik A kvs m :: Rs) H → m[n]? = some (k, x) → ∃ u, kvs[n]? = some (ik k, u) ∧ M (A u x :: starK ik A (kvs.eraseIdx n) (m.eraseIdx n) :: Rs) H
  | [], [], _, n, k, x, _, h => by simp at h
  | [], _ :: _, _, _, _, _, S, _ => (S.pr).1.elim
  | _ :: _, [], _, _, _, _, S, _ => (S.pr).1.elim
  | kv :: kvs, y :: m, Rs, 0, k, x, S, h => by
    cases (Option.some.inj (show some y = some (k, x) from h))
    obtain ⟨e, S2⟩ := S.sp.pr
    exact ⟨kv.2, by rw [← e]; rfl, S2⟩
  | kv :: kvs, y :: m, Rs, n + 1, k, x, S, h => by
    obtain ⟨u, hu, S2⟩ := starK_open (n := n) (k := k) (x := x) (S.sp.at 1 rfl) (by simpa using h)
    refine ⟨u, by simpa using hu, ?_⟩
    have S3 : M (sp2 (prp (kv.1 = ik y.1) (A kv.2 y.2)) (starK ik A (kvs.eraseIdx n) (m.eraseIdx n)) :: A u x :: Rs) H := M.sp' (M.sub (.cons 2 rfl (.cons 1 rfl (.refl _))) S2)
    exact M.sub (.cons 1 rfl (.refl _)) S3
theorem starK_repl : ∀ {kvs : List (Key × V)} {m : List (κ × α)} {Rs : List Res} {n : Nat} {k : κ} {u0 u : V} {x y : α}, kvs[n]? = some (ik k, u0) → m[n]? = some (k, x) → M (A u y :: starK ik A (kvs.eraseIdx n) (m.eraseIdx n) :: Rs) H → M (starK ik A (kvs.set n (ik k, u)) (m.set n (k, y)) :: Rs) H
  | [], _, _, n, _, _, _, _, _, h, _, _ => by simp at h
  | _ :: _, [], _, _, _, _, _, _, _, _, h, _ => by simp at h
  | kv :: kvs, q :: m, Rs, 0, k, u0, u, x, y, h, g, S => M.sp' (M.pr' rfl S)
  | kv :: kvs, q :: m, Rs, n + 1, k, u0, u, x, y, h, g, S => by
    have S2 : M (sp2 (prp (kv.1 = ik q.1) (A kv.2 q.2)) (starK ik A (kvs.eraseIdx n) (m.eraseIdx n)) :: A u y :: Rs) H := M.sub (.cons 1 rfl (.refl _)) S
    have S3 := starK_repl (kvs := kvs) (m := m) (n := n) (k := k) (u0 := u0) (u := u) (x := x) (y := y) (Rs := prp (kv.1 = ik q.1) (A kv.2 q.2) :: Rs) (by simpa using h) (by simpa using g) (M.sub (.cons 2 rfl (.cons 1 rfl (.refl _))) S2.sp)
    exact M.sp' (M.sub (.cons 1 rfl (.refl _)) S3)
theorem set_same {γ : Type} : ∀ {xs : List γ} {n : Nat} {x : γ}, xs[n]? = some x → xs.set n x = xs
  | [], n, x, h => by simp at h
  | y :: xs, 0, x, h => by cases (Option.some.inj (show some y = some x from h)); rfl
  | y :: xs, n + 1, x, h => by rw [List.set_cons_succ, set_same (by simpa using h)]
theorem starK_close {kvs : List (Key × V)} {m : List (κ × α)} {n : Nat} {k : κ} {u : V} {x y : α} (h : kvs[n]? = some (ik k, u)) (g : m[n]? = some (k, x)) (S : M (A u y :: starK ik A (kvs.eraseIdx n) (m.eraseIdx n) :: Rs) H) : M (starK ik A kvs (m.set n (k, y)) :: Rs) H := by
  have := starK_repl h g S
  rwa [set_same h] at this
theorem starK_put : ∀ {kvs : List (Key × V)} {m : List (κ × α)} {Rs : List Res} {k : κ} {u : V} {y : α}, M (A u y :: starK ik A kvs m :: Rs) H → M (starK ik A (kvs ++ [(ik k, u)]) (m ++ [(k, y)]) :: Rs) H
  | [], [], _, k, u, y, S => M.sp' (M.pr' rfl S)
  | [], _ :: _, _, _, _, _, S => ((S.at 1 rfl).pr).1.elim
  | _ :: _, [], _, _, _, _, S => ((S.at 1 rfl).pr).1.elim
  | kv :: kvs, q :: m, Rs, k, u, y, S => by
    have S2 := (S.at 1 rfl).sp
    have S3 := starK_put (kvs := kvs) (m := m) (k := k) (u := u) (y := y) (Rs := prp (kv.1 = ik q.1) (A kv.2 q.2) :: Rs) (M.sub (.cons 2 rfl (.cons 1 rfl (.cons 0 rfl (.refl _)))) S2)
    exact M.sp' (M.sub (.cons 1 rfl (.refl _)) S3)
theorem ks_kv {kvs : List (Key × V)} {m : List (κ × α)} (h : kvs.map (·.1) = (ks m).map ik) (inj : ∀ a b, ik a = ik b → a = b) (nd : (ks m).Nodup) : (ks kvs).Nodup := by
  show (kvs.map (·.1)).Nodup
  rw [h]
  exact nd_map inj nd
variable [DecidableEq κ]
theorem dvR_open (S : M Rs H) (j : Nat) {m : List (κ × α)} (hj : Rs[j]? = some (dvR ik A p m)) : ∃ kvs, (ks m).Nodup ∧ kvs.map (·.1) = (ks m).map ik ∧ M (pt p (.dK kvs) :: starK ik A kvs m :: Rs.eraseIdx j) H := by
  obtain ⟨kvs, S1⟩ := (S.at j hj).ex
  obtain ⟨nd, S2⟩ := S1.pr
  exact ⟨kvs, nd, starK_keys (S2.sp.at 1 rfl), S2.sp⟩
theorem dvR_mk {kvs : List (Key × V)} {m : List (κ × α)} (nd : (ks m).Nodup) (S : M (pt p (.dK kvs) :: starK ik A kvs m :: Rs) H) : M (dvR ik A p m :: Rs) H := M.ex' kvs (M.pr' nd S.sp')
theorem dvR_nil (S : M (pt p (.dK []) :: Rs) H) : M (dvR ik A p ([] : List (κ × α)) :: Rs) H := dvR_mk List.nodup_nil (M.sub (.cons 1 rfl (.refl _)) S.addE)
theorem v_dnewDV {σ : L2.St} (S : M Rs H) (k : ∀ p H', M (dvR ik A p ([] : List (κ × α)) :: Rs) H' → Q (.ref p) H') : tDNewK σ H Q := v_dnew S fun p H' S' => k p H' (dvR_nil S')
/-- what a dict of things of one's own tells of its keys -/
theorem M.dvk {m : List (κ × α)} (inj : ∀ a b, ik a = ik b → a = b) (S : M Rs H) (j : Nat) (hj : Rs[j]? = some (dvR ik A p m)) : ∃ kvs, H p = some (.dK kvs) ∧ kvs.map (·.1) = (ks m).map ik ∧ kvs.length = m.length ∧ ∀ k, (valV kvs (ik k)).isSome = (lk m k).isSome := by
  obtain ⟨kvs, nd, hk, S1⟩ := dvR_open S j hj
  have hl : kvs.length = m.length := by
    have := congrArg List.length hk
    simpa [ks] using this
  refine ⟨kvs, S1.got 0 rfl, hk, hl, fun k => ?_⟩
  show (lk kvs (ik k)).isSome = _
  rw [Bool.eq_iff_iff, lk_iff, lk_iff]
  show ik k ∈ kvs.map (·.1) ↔ _
  rw [hk, List.mem_map]
  constructor
  · rintro ⟨a, ha, e⟩
    rwa [← inj _ _ e]
  · exact fun h => ⟨k, h, rfl⟩
theorem v_lenDV {m : List (κ × α)} (inj : ∀ a b, ik a = ik b → a = b) (S : M Rs H) (j : Nat) (hj : Rs[j]? = some (dvR ik A p m)) (k : Q (.int (m.length : Nat)) H) : uLen K [.ref p] H Q := by
  obtain ⟨kvs, h, _, hl, _⟩ := M.dvk inj S j hj
  exact v_lenD h (by rw [hl]; exact k)
end
section
variable {K : PySem.W.Frag} {α : Type} {Rs : List Res} {H : Hp} {A : V → α → Res} {p : Addr} {Q : VK}
theorem v_inDVI {m : List (Int × α)} {n : Int} (S : M Rs H) (j : Nat) (hj : Rs[j]? = some (dvR iI A p m)) (k : Q (.bl (lk m n).isSome) H) : uIn K (.int n) (.ref p) H Q := by
  obtain ⟨kvs, h, _, _, e⟩ := M.dvk injI S j hj
  exact v_inK h (by rw [show (Sum.inl n : Key) = iI n from rfl, e]; exact k)
theorem v_ninDVI {m : List (Int × α)} {n : Int} (S : M Rs H) (j : Nat) (hj : Rs[j]? = some (dvR iI A p m)) (k : Q (.bl (!(lk m n).isSome)) H) : uNotIn K (.int n) (.ref p) H Q := by
  obtain ⟨kvs, h, _, _, e⟩ := M.dvk injI S j hj
  exact v_ninK h (by rw [show (Sum.inl n : Key) = iI n from rfl, e]; exact k)
theorem v_inDVS {m : List (Str × α)} {n : Str} (S : M Rs H) (j : Nat) (hj : Rs[j]? = some (dvR iS A p m)) (k : Q (.bl (lk m n).isSome) H) : uIn K (.str n) (.ref p) H Q := by
  obtain ⟨kvs, h, _, _, e⟩ := M.dvk injS S j hj
  exact v_inKS h (by rw [show (Sum.inr n : Key) = iS n from rfl, e]; exact k)
theorem v_ninDVS {m : List (Str × α)} {n : Str} (S : M Rs H) (j : Nat) (hj : Rs[j]? = some (dvR iS A p m)) (k : Q (.bl (!(lk m n).isSome)) H) : uNotIn K (.str n) (.ref p) H Q := by
  obtain ⟨kvs, h, _, _, e⟩ := M.dvk injS S j hj
  exact v_ninKS h (by rw [show (Sum.inr n : Key) = iS n from rfl, e]; exact k)
theorem v_sortDVI {m : List (Int × α)} (S : M Rs H) (j : Nat) (hj : Rs[j]? = some (dvR iI A p m)) (hz : (ks m).length < 64) (k : ∀ q H', M (acR K q ((srt (ks m)).map eI) :: Rs) H' → Q (.ref q) H') : rSortDI [.ref p] H Q := by
  obtain ⟨kvs, h, t, _, _⟩ := M.dvk injI S j hj
  exact v_sortDI S h t hz fun q H' S' => k q H' S'.ownI
theorem v_soDVI {m : List (Int × α)} (S : M Rs H) (j : Nat) (hj : Rs[j]? = some (dvR iI A p m)) (hz : (ks m).length ≤ 1000000) (k : ∀ q H', M (acR K q ((srt (ks m)).map eI) :: Rs) H' → Q (.ref q) H') : rSoDI [.ref p] H Q := by
  obtain ⟨kvs, h, t, _, _⟩ := M.dvk injI S j hj
  exact ⟨p, kvs, ks m, rfl, .inl h, t, hz, fun ys q hp hs hn => by
    rw [srt_eq hp hs]
    exact k q _ (S.new hn).ownI⟩
theorem v_sortDVS {m : List (Str × α)} (S : M Rs H) (j : Nat) (hj : Rs[j]? = some (dvR iS A p m)) (hz : (ks m).length < 64) (k : ∀ q H', M (acR K q ((srtS' (ks m)).map eS) :: Rs) H' → Q (.ref q) H') : rSortDS [.ref p] H Q := by
  obtain ⟨kvs, h, t, _, _⟩ := M.dvk injS S j hj
  refine ⟨p, kvs, ks m, rfl, .inl h, t, hz, fun ys q hp hs hn => ?_⟩
  rw [srtS_eq hp hs]
  exact k q _ (S.new hn).ownS
end
section
variable {K : PySem.W.Frag} {κ α : Type} [DecidableEq κ] {Rs : List Res} {H : Hp} {A : V → α → Res} {ik : κ → Key} {p : Addr} {Q : VK}
/-- d[k], a thing of one's own: it is taken out -/
theorem v_ixDV {m : List (κ × α)} {k : κ} {x : α} (inj : ∀ a b, ik a = ik b → a = b) (S : M Rs H) (j : Nat) (hj : Rs[j]? = some (dvR ik A p m)) (hx : lk m k = some x)
    (c : ∀ u kvs n, kvs[n]? = some (ik k, u) → m[n]? = some (k, x) → (ks m).Nodup → M (A u x :: pt p (.dK kvs) :: starK ik A (kvs.eraseIdx n) (m.eraseIdx n) :: Rs.eraseIdx j) H → Q u H) : rIxK (.ref p) (kV (ik k)) H Q := by
  obtain ⟨kvs, nd, hk, S1⟩ := dvR_open S j hj
  obtain ⟨n, hn⟩ := atKey hx
  obtain ⟨u, hu, S2⟩ := starK_open (S1.at 1 rfl) hn
  have S3 : M (A u x :: pt p (.dK kvs) :: starK ik A (kvs.eraseIdx n) (m.eraseIdx n) :: Rs.eraseIdx j) H := M.sub (.cons 0 rfl (.cons 1 rfl (.refl _))) S2
  exact ⟨p, u, rfl, .inl ⟨kvs, ik k, .inl (S3.got 1 rfl), rfl, (ndAt (ks_kv hk inj nd) hu).symm⟩, c u kvs n hu hn nd S3⟩
theorem dvR_close {kvs : List (Key × V)} {m : List (κ × α)} {n : Nat} {k : κ} {u : V} {x y : α} (h : kvs[n]? = some (ik k, u)) (g : m[n]? = some (k, x)) (nd : (ks m).Nodup) (S : M (A u y :: pt p (.dK kvs) :: starK ik A (kvs.eraseIdx n) (m.eraseIdx n) :: Rs) H) : M (dvR ik A p (pk m k y) :: Rs) H := by
  have S1 := starK_close (Rs := pt p (.dK kvs) :: Rs) h g (M.sub (.cons 0 rfl (.cons 1 rfl (.refl _))) S)
  rw [← pkAt (y := y) nd g] at S1
  exact dvR_mk (nd_pk nd) (M.sub (.cons 1 rfl (.refl _)) S1)
/-- d[k] = a thing of one's own -/
theorem v_putDV {m : List (κ × α)} {k : κ} {u : V} {y : α} {Q : Hp → Prop} (inj : ∀ a b, ik a = ik b → a = b) (S : M (A u y :: dvR ik A p m :: Rs) H) (hz : m.length < 100000) (c : ∀ H', M (dvR ik A p (pk m k y) :: Rs) H' → Q H') : uSet (.ref p) (kV (ik k)) u H Q := by
  obtain ⟨kvs, nd, hk, S1⟩ := dvR_open S 1 rfl
  have hl : kvs.length = m.length := by
    have := congrArg List.length hk
    simpa [ks] using this
  refine .inr ⟨p, _, rfl, DPut.k (k := ik k) (S1.got 0 rfl) (Nat.lt_of_lt_of_le (by rw [hl]; exact hz) (by decide)), c _ ?_⟩
  have S2 : M (pt p (.dK (putK kvs (ik k) u)) :: starK ik A kvs m :: A u y :: Rs) (upd H p (.dK (putK kvs (ik k) u))) := S1.putAt 0 rfl
  have ndk := ks_kv hk inj nd
  cases e : lk m k with
  | some x =>
    obtain ⟨n, hn⟩ := atKey e
    obtain ⟨u0, hu, S3⟩ := starK_open (S2.at 1 rfl) hn
    have S4 := starK_repl (Rs := pt p (.dK (putK kvs (ik k) u)) :: Rs) (u := u) (y := y) hu hn (M.sub (.cons 3 rfl (.cons 1 rfl (.cons 1 rfl (.tl (.refl _))))) S3)
    have e2 : putK kvs (ik k) u = kvs.set n (ik k, u) := pkAt (m := kvs) ndk hu
    rw [← pkAt (y := y) nd hn, ← e2] at S4
    exact dvR_mk (nd_pk nd) (M.sub (.cons 1 rfl (.refl _)) S4)
  | none =>
    have e1 : lk kvs (ik k) = none := by
      refine lk_none_iff.mpr fun z => ?_
      have z : ik k ∈ kvs.map (·.1) := z
      rw [hk] at z
      obtain ⟨a, ha, ea⟩ := List.mem_map.mp z
      exact lk_none_iff.mp e (by rw [← inj _ _ ea]; exact ha)
    have e2 : putK kvs (ik k) u = kvs ++ [(ik k, u)] := pk_new (m := kvs) e1
    have S4 := starK_put (k := k) (Rs := pt p (.dK (putK kvs (ik k) u)) :: Rs) (M.sub (.cons 2 rfl (.cons 1 rfl (.refl _))) S2)
    rw [← pk_new (x := y) e, ← e2] at S4
    exact dvR_mk (nd_pk nd) (M.sub (.cons 1 rfl (.refl _)) S4)
/-- d.pop(k) -/
theorem v_dpopDV {tb : TE} {σ : L2.St} {m : List (κ × α)} (S : M Rs H) (j : Nat) (hj : Rs[j]? = some (dvR ik A p m)) (k : tb σ H (PopV p Q)) : Pop1K tb σ Q (.ref p) H := by
  obtain ⟨kvs, nd, hk, S1⟩ := dvR_open S j hj
  exact v_dpop (S1.got 0 rfl) k
theorem v_popDV {m : List (κ × α)} {k : κ} {x : α} (inj : ∀ a b, ik a = ik b → a = b) (S : M Rs H) (j : Nat) (hj : Rs[j]? = some (dvR ik A p m)) (hx : lk m k = some x) (c : ∀ u H', M (A u x :: dvR ik A p (dk m k) :: Rs.eraseIdx j) H' → Q u H') : PopV p Q (kV (ik k)) H := by
  obtain ⟨kvs, nd, hk, S1⟩ := dvR_open S j hj
  obtain ⟨n, hn⟩ := atKey hx
  obtain ⟨u, hu, S2⟩ := starK_open (S1.at 1 rfl) hn
  have ndk := ks_kv hk inj nd
  refine ⟨kvs, ik k, u, S1.got 0 rfl, rfl, ndAt ndk hu, c u _ ?_⟩
  have S3 := S2.putAt (o' := .dK (dropK kvs (ik k))) 2 rfl
  have e2 : dropK kvs (ik k) = kvs.eraseIdx n := dkAt (m := kvs) ndk hu
  rw [e2] at S3 ⊢
  have S4 : M (pt p (.dK (kvs.eraseIdx n)) :: starK ik A (kvs.eraseIdx n) (m.eraseIdx n) :: A u x :: Rs.eraseIdx j) _ := M.sub (.cons 2 rfl (.cons 1 rfl (.refl _))) S3
  rw [← dkAt nd hn] at S4
  exact M.sub (.cons 1 rfl (.refl _)) (dvR_mk (nd_dk nd) S4)
end
end RC
namespace RC
open PySem PySem.Spec PyProof.Rows L2
/-! ### things that stay as they are, choices -/
section
variable {K : PySem.W.Frag} {κ α : Type} {Rs : List Res} {H : Hp} {A : V → α → Res} {ik : κ → Key} {p : Addr} {Q : VK}
theorem dvR_same [DecidableEq κ] {kvs : List (Key × V)} {m : List (κ × α)} {n : Nat} {k : κ} {u : V} {x : α} (h : kvs[n]? = some (ik k, u)) (g : m[n]? = some (k, x)) (nd : (ks m).Nodup) (S : M (A u x :: pt p (.dK kvs) :: starK ik A (kvs.eraseIdx n) (m.eraseIdx n) :: Rs) H) : M (dvR ik A p m :: Rs) H := by
  have S1 := starK_close (Rs := pt p (.dK kvs) :: Rs) h g (M.sub (.cons 0 rfl (.cons 1 rfl (.refl _))) S)
  rw [set_same g] at S1
  exact dvR_mk nd (M.sub (.cons 1 rfl (.refl _)) S1)
theorem lsR_same {vs : List V} {xs : List α} {n : Nat} {u : V} {x : α} (hv : vs[n]? = some u) (hx : xs[n]? = some x) (S : M (A u x :: pt p (.lst vs) :: starR A (vs.eraseIdx n) (xs.eraseIdx n) :: Rs) H) : M (lsR A p xs :: Rs) H := by
  have := lsR_close hv hx S
  rwa [set_same hx] at this
end
theorem tx_cut {β : Type} {te : TE} {σ : L2.St} {H : Hp} {Q : VK} {m : (β → Prop) → Prop} {KK : β → Prop} (hf : jn m KK) (Inv : β → V → Hp → Prop)
    (h1 : ∀ (kk : β → Prop) (P' : VK), (∀ x v H, kk x → Inv x v H → P' v H) → m kk → te σ H P') (h2 : ∀ x v H, KK x → Inv x v H → Q v H) : te σ H Q := h1 KK Q h2 hf
theorem v_setC {Rs : List Res} {H : Hp} {p : Addr} {xs : List V} {n : Int} {j : Nat} {v : V} {Q : Hp → Prop} (S : M Rs H) (i : Nat) (e : Rs[i]? = some (pt p (.lst xs))) (hj : ixN xs.length n = some j) (k : ∀ H', M (Rs.set i (pt p (.lst (xs.set j v)))) H' → Q H') : uSet (.ref p) (.int n) v H Q := v_set S i e hj k
section
variable {K : PySem.W.Frag} {Rs : List Res} {H : Hp} {Q : VK} {v : V} {α : Type} {σ : L2.St} {tb : TE}
/-- tuple(list) -/
theorem v_tupL {e : α → PyData} {xs : List α} (S : M Rs H) (j : Nat) (hj : Rs[j]? = some (da K v (eL e xs))) (k : ∀ p H', M (da K (.ref p) (eV e xs) :: Rs) H' → Q (.ref p) H') : rTupL K [v] H Q := by
  obtain ⟨F, L, s, m⟩ := id S
  cases EnF.at j hj F L s with
  | lst a q =>
    refine ⟨_, _, rfl, .inl ⟨m.ex.sqL a, fun l hl => ?_⟩⟩
    have hn : F l = none := by
      cases e : F l with
      | none => rfl
      | some o => rw [m.ex _ _ e] at hl; cases hl
    rename_i vs
    have S9 : M (daA K vs (xs.map e) :: Rs) H := ⟨F, L, ⟨[], L, rfl, ⟨rfl, q⟩, s⟩, m⟩
    have S10 := S9.new (o := .tup vs) hl
    have S11 : M (da K (.ref l) (.tuple (xs.map e)) :: _) _ := S10.fixG (φ := fun F => DqAll K F vs (xs.map e)) (R := da K (.ref l) (.tuple (xs.map e))) (fun F L s => by
      obtain ⟨l, h⟩ := s.get 0 rfl
      exact h.2) fun F q fp => ⟨rfl, .tup (.inl (.inl fp)) q⟩
    exact k l _ (M.sub (.cons 0 rfl (.tl (.refl _))) S11)
/-- x or y, x a list -/
theorem v_orL {e : α → PyData} {xs : List α} {X Y : Prop} (h : Dq K H v (eL e xs)) (hf : if (!xs.isEmpty) = true then X else Y) (k1 : X → Q v H) (k2 : Y → tb σ H Q) : OrK K tb σ Q v H := by
  cases h with
  | @lst a vs ds h t =>
    cases xs with
    | nil =>
      cases t
      exact ⟨false, .inl ⟨_, h, rfl⟩, by simpa using k2 (by simpa using hf)⟩
    | cons x xs =>
      cases t with
      | cons d t => exact ⟨true, .inl ⟨_, h, rfl⟩, by simpa using k1 (by simpa using hf)⟩
end
theorem eL_any {α : Type} (e : α → PyData) (xs : List α) : eL e xs = eL eA (xs.map e) := by unfold eL; rw [map_eA]
end RC

namespace RC
open PySem PySem.Spec PyProof.Rows L2
/-! ### data of which some lists and tuples are one's own -/
inductive OD where
  | fz (d : PyData)
  | ol (l : List OD)
  | ot (l : List OD)
mutual
def OD.fgt : OD → PyData
  | .fz d => d
  | .ol l => .list (OD.fgtAll l)
  | .ot l => .tuple (OD.fgtAll l)
def OD.fgtAll : List OD → List PyData
  | [] => []
  | x :: xs => x.fgt :: OD.fgtAll xs
end
theorem OD.fgtAll_map : ∀ l : List OD, OD.fgtAll l = l.map OD.fgt
  | [] => rfl
  | x :: xs => by rw [List.map_cons, ← OD.fgtAll_map xs]; rfl
def OD.fzs {α : Type} (e : α → PyData) (xs : List α) : List OD := xs.map fun x => .fz (e x)
theorem OD.fgt_fzs {α : Type} (e : α → PyData) (xs : List α) : (OD.fzs e xs).map OD.fgt = xs.map e := by
  unfold OD.fzs
  rw [List.map_map]
  rfl
theorem OD.fgt_ol {α : Type} (e : α → PyData) (xs : List α) : (OD.ol (OD.fzs e xs)).fgt = eL e xs := by
  show PyData.list (OD.fgtAll _) = _
  rw [OD.fgtAll_map, OD.fgt_fzs]
  rfl
mutual
def odR (K : PySem.W.Frag) : V → OD → Res
  | v, .fz d => da K v d
  | v, .ol l => exi fun p => prp (v = .ref p) (exi fun vs => sp2 (pt p (.lst vs)) (odRs K vs l))
  | v, .ot l => exi fun p => prp (v = .ref p) (exi fun vs => sp2 (pt p (.tup vs)) (odRs K vs l))
def odRs (K : PySem.W.Frag) : List V → List OD → Res
  | [], [] => emR
  | v :: vs, x :: xs => sp2 (odR K v x) (odRs K vs xs)
  | [], _ :: _ => prp False emR
  | _ :: _, [] => prp False emR
end
/-- a tuple of one's own of things of one's own of one kind -/
def tlR {α : Type} (A : V → α → Res) (p : Addr) (xs : List α) : Res := exi fun vs => sp2 (pt p (.tup vs)) (starR A vs xs)
section
variable {K : PySem.W.Frag} {Rs : List Res} {H : Hp} {Q : VK} {v : V} {p : Addr}
theorem odRs_star : ∀ (vs : List V) (l : List OD), odRs K vs l = starR (odR K) vs l
  | [], [] => rfl
  | v :: vs, x :: xs => by
    show sp2 (odR K v x) (odRs K vs xs) = sp2 (odR K v x) (starR (odR K) vs xs)
    rw [odRs_star vs xs]
  | [], _ :: _ => rfl
  | _ :: _, [] => rfl
theorem odR_ol (v : V) (l : List OD) : odR K v (.ol l) = vr (lsR (odR K)) v l := by
  show (exi fun p => prp (v = .ref p) (exi fun vs => sp2 (pt p (.lst vs)) (odRs K vs l))) = exi fun p => prp (v = .ref p) (exi fun vs => sp2 (pt p (.lst vs)) (starR (odR K) vs l))
  simp only [odRs_star]
theorem odR_ot (v : V) (l : List OD) : odR K v (.ot l) = vr (tlR (odR K)) v l := by
  show (exi fun p => prp (v = .ref p) (exi fun vs => sp2 (pt p (.tup vs)) (odRs K vs l))) = exi fun p => prp (v = .ref p) (exi fun vs => sp2 (pt p (.tup vs)) (starR (odR K) vs l))
  simp only [odRs_star]
theorem M.odO {x : OD} {l : List OD} (S : M (odR K v x :: Rs) H) (h : x = .ol l) : ∃ p, v = .ref p ∧ M (lsR (odR K) p l :: Rs) H := by
  subst h
  rw [odR_ol] at S
  exact S.vrO
theorem M.odC {l : List OD} (S : M (lsR (odR K) p l :: Rs) H) : M (odR K (.ref p) (.ol l) :: Rs) H := by
  rw [odR_ol]
  exact M.vrC S
theorem M.odF {d : PyData} (S : M (da K v d :: Rs) H) : M (odR K v (.fz d) :: Rs) H := S
/-- data as it is now -/
theorem Dn_tup {vs : List V} {ds : List PyData} (h : SqT K H p vs) (q : DnAll K H vs ds) : Dn K H (.ref p) (.tuple ds) := .tup h q
mutual
theorem M.gotOD : ∀ {x : OD} {v : V} {Rs : List Res}, M (odR K v x :: Rs) H → Dn K H v x.fgt
  | .fz d, v, Rs, S => Dq.dn (M.gotA S 0 rfl)
  | .ol l, v, Rs, S => by
    obtain ⟨p, S1⟩ := S.ex
    obtain ⟨e, S2⟩ := S1.pr
    obtain ⟨vs, S3⟩ := S2.ex
    subst e
    exact .lst (SqL.of (S3.sp.got 0 rfl)) (M.gotODs (S3.sp.at 1 rfl))
  | .ot l, v, Rs, S => by
    obtain ⟨p, S1⟩ := S.ex
    obtain ⟨e, S2⟩ := S1.pr
    obtain ⟨vs, S3⟩ := S2.ex
    subst e
    exact .tup (.inl (.inl (S3.sp.got 0 rfl))) (M.gotODs (S3.sp.at 1 rfl))
theorem M.gotODs : ∀ {l : List OD} {vs : List V} {Rs : List Res}, M (odRs K vs l :: Rs) H → DnAll K H vs (OD.fgtAll l)
  | [], [], _, _ => .nil
  | x :: xs, v :: vs, _, S => .cons (M.gotOD S.sp) (M.gotODs (S.sp.at 1 rfl))
  | _ :: _, [], _, S => (S.pr).1.elim
  | [], _ :: _, _, S => (S.pr).1.elim
end
theorem M.dnOD {x : OD} {R0 : List Res} (S : M R0 H) (i : Nat) (e : R0[i]? = some (odR K v x)) : Dn K H v x.fgt := M.gotOD (S.at i e)
theorem M.dnLO {l : List OD} {R0 : List Res} (S : M R0 H) (i : Nat) (e : R0[i]? = some (lsR (odR K) p l)) : Dn K H (.ref p) (.list (l.map OD.fgt)) := by
  rw [← OD.fgtAll_map]
  exact M.gotOD (x := .ol l) (M.odC (S.at i e))
/-! it is data from now on -/
mutual
theorem M.frzOD : ∀ {x : OD} {v : V} {Rs : List Res}, M (odR K v x :: Rs) H → M (da K v x.fgt :: Rs) H
  | .fz d, v, Rs, S => S
  | .ol l, v, Rs, S => by
    obtain ⟨p, S1⟩ := S.ex
    obtain ⟨e, S2⟩ := S1.pr
    obtain ⟨vs, S3⟩ := S2.ex
    subst e
    have S4 := M.frzODs (S3.sp.at 1 rfl)
    have S5 : M (pt p (.lst vs) :: daA K vs (OD.fgtAll l) :: Rs) H := S4.at 1 rfl
    exact M.sub (.cons 0 rfl (.tl (.refl _))) (S5.fixG (φ := fun F => DqAll K F vs (OD.fgtAll l)) (R := da K (.ref p) (.list (OD.fgtAll l))) (fun F L s => by
      obtain ⟨l, h⟩ := s.get 0 rfl
      exact h.2) fun F q fp => ⟨rfl, .lst (.inl (.inl fp)) q⟩)
  | .ot l, v, Rs, S => by
    obtain ⟨p, S1⟩ := S.ex
    obtain ⟨e, S2⟩ := S1.pr
    obtain ⟨vs, S3⟩ := S2.ex
    subst e
    have S4 := M.frzODs (S3.sp.at 1 rfl)
    have S5 : M (pt p (.tup vs) :: daA K vs (OD.fgtAll l) :: Rs) H := S4.at 1 rfl
    exact M.sub (.cons 0 rfl (.tl (.refl _))) (S5.fixG (φ := fun F => DqAll K F vs (OD.fgtAll l)) (R := da K (.ref p) (.tuple (OD.fgtAll l))) (fun F L s => by
      obtain ⟨l, h⟩ := s.get 0 rfl
      exact h.2) fun F q fp => ⟨rfl, .tup (.inl (.inl fp)) q⟩)
theorem M.frzODs : ∀ {l : List OD} {vs : List V} {Rs : List Res}, M (odRs K vs l :: Rs) H → M (daA K vs (OD.fgtAll l) :: Rs) H
  | [], [], _, S => by
    obtain ⟨F, L, ⟨l1, l2, e, a, s⟩, m⟩ := S
    exact ⟨F, L, ⟨l1, l2, e, ⟨a, .nil⟩, s⟩, m⟩
  | x :: xs, v :: vs, Rs, S => by
    have S1 := M.frzOD S.sp
    have S2 := M.frzODs (S1.at 1 rfl)
    have S3 : M (da K v x.fgt :: daA K vs (OD.fgtAll xs) :: Rs) H := S2.at 1 rfl
    obtain ⟨F, L, ⟨l1, l2, rfl, ⟨rfl, h⟩, l3, l4, rfl, ⟨rfl, q⟩, s⟩, m⟩ := S3
    exact ⟨F, l4, ⟨[], l4, rfl, ⟨rfl, .cons h q⟩, s⟩, m⟩
  | _ :: _, [], _, S => (S.pr).1.elim
  | [], _ :: _, _, S => (S.pr).1.elim
end
/-- a list of one's own of data, as such a thing -/
theorem M.acOD {α : Type} {e : α → PyData} {xs : List α} (S : M (acR K p (xs.map e) :: Rs) H) : M (odR K (.ref p) (.ol (OD.fzs e xs)) :: Rs) H := by
  obtain ⟨vs, S1⟩ := S.ex
  refine M.odC ?_
  have key : ∀ {vs : List V} {xs : List α} {Rs : List Res}, M (daA K vs (xs.map e) :: Rs) H → M (starR (odR K) vs (OD.fzs e xs) :: Rs) H := by
    intro vs
    induction vs with
    | nil =>
      intro xs Rs S
      cases xs with
      | nil => exact S.tl.addE
      | cons x xs => have := (S.gotAA 0 rfl).len; simp at this
    | cons v vs ih =>
      intro xs Rs S
      cases xs with
      | nil => have := (S.gotAA 0 rfl).len; simp at this
      | cons x xs =>
        obtain ⟨F, L, ⟨l1, l2, rfl, ⟨rfl, q⟩, s⟩, m⟩ := S
        cases q with
        | cons h q =>
          have S2 : M (daA K vs (xs.map e) :: da K v (e x) :: Rs) H := ⟨F, l2, ⟨[], l2, rfl, ⟨rfl, q⟩, [], l2, rfl, ⟨rfl, h⟩, s⟩, m⟩
          have S3 := ih S2
          exact M.sp' (M.sub (.cons 1 rfl (.refl _)) S3)
  exact M.ex' vs (M.sp' (M.sub (.cons 1 rfl (.refl _)) (key (S1.sp.at 1 rfl))))
/-- x[i] of what is not named: the rest is left -/
def OD.at : OD → Int → Option OD
  | .fz d, i => (anyAt d i).map .fz
  | .ol l, i => atI l i
  | .ot l, i => atI l i
theorem v_ixOD {x y : OD} {i : Int} {R0 : List Res} (S : M R0 H) (j : Nat) (hj : R0[j]? = some (odR K v x)) (h : x.at i = some y) (k : ∀ u, M (odR K u y :: R0.eraseIdx j) H → Q u H) : uIx K v (.int i) H Q := by
  have S1 := S.at j hj
  cases x with
  | fz d =>
    cases e : anyAt d i with
    | none => rw [show OD.at (.fz d) i = (anyAt d i).map .fz from rfl, e] at h; cases h
    | some z =>
      rw [show OD.at (.fz d) i = (anyAt d i).map .fz from rfl, e] at h
      cases h
      exact v_ixa S1 0 rfl e fun u S2 => k u (M.sub (.cons 0 rfl (.tl (.refl _))) S2)
  | ol l =>
    obtain ⟨n, h1, h2⟩ := atI_get (show atI l i = some y from h)
    obtain ⟨p, rfl, S2⟩ := S1.odO rfl
    exact v_ixLs S2 0 rfl h1 h2 fun u vs _ S3 => k u (M.sub (.cons 0 rfl (.tl (.tl (.refl _)))) S3)
  | ot l =>
    obtain ⟨n, h1, h2⟩ := atI_get (show atI l i = some y from h)
    rw [odR_ot] at S1
    obtain ⟨p, rfl, S2⟩ := S1.vrO
    obtain ⟨vs, S3⟩ := S2.ex
    have S4 := S3.sp
    have hl := starR_len (S4.at 1 rfl)
    obtain ⟨u, hu, S5⟩ := starR_open (S4.at 1 rfl) h2
    have S6 : M (odR K u y :: pt p (.tup vs) :: R0.eraseIdx j) H := M.sub (.cons 0 rfl (.cons 1 rfl (.tl (.refl _)))) S5
    exact v_ixT (.inl (.inl (S6.got 1 rfl))) (atI_of (by rw [hl]; exact h1) hu) (k u (M.sub (.cons 0 rfl (.tl (.refl _))) S6))
end
theorem ixN_lt {n j : Nat} {i : Int} (h : ixN n i = some j) : j < n := by
  unfold ixN at h
  split at h
  · split at h
    · cases h; omega
    · cases h
  · split at h
    · cases h; omega
    · cases h
def eLO (l : List OD) : PyData := .list (l.map OD.fgt)
section
variable {K : PySem.W.Frag} {α : Type} {Rs : List Res} {H : Hp} {A : V → α → Res} {p : Addr}
theorem starR_repl : ∀ {vs : List V} {xs : List α} {Rs : List Res} {n : Nat} {u : V} {y : α}, n < xs.length → M (A u y :: starR A (vs.eraseIdx n) (xs.eraseIdx n) :: Rs) H → vs.length = xs.length → M (starR A (vs.set n u) (xs.set n y) :: Rs) H
  | [], [], _, n, _, _, h, _, _ => by simp at h
  | [], _ :: _, _, _, _, _, _, _, h => by simp at h
  | _ :: _, [], _, _, _, _, _, _, h => by simp at h
  | v :: vs, x :: xs, Rs, 0, u, y, hl, S, _ => S.sp'
  | v :: vs, x :: xs, Rs, n + 1, u, y, hl, S, e => by
    have S2 : M (sp2 (A v x) (starR A (vs.eraseIdx n) (xs.eraseIdx n)) :: A u y :: Rs) H := M.sub (.cons 1 rfl (.refl _)) S
    have S3 := starR_repl (vs := vs) (xs := xs) (n := n) (u := u) (y := y) (Rs := A v x :: Rs) (by simpa using hl) (M.sub (.cons 2 rfl (.cons 1 rfl (.refl _))) S2.sp) (by simpa using e)
    exact M.sp' (M.sub (.cons 1 rfl (.refl _)) S3)
/-- xs[i] = a thing of one's own -/
theorem v_setLs {xs : List α} {u : V} {y : α} {i : Int} {n : Nat} {Q : Hp → Prop} (S : M (A u y :: lsR A p xs :: Rs) H) (hn : ixN xs.length i = some n) (k : ∀ H', M (lsR A p (xs.set n y) :: Rs) H' → Q H') : uSet (.ref p) (.int i) u H Q := by
  obtain ⟨vs, S1⟩ := (S.at 1 rfl).ex
  have S2 := S1.sp
  have hl := starR_len (S2.at 1 rfl)
  have hlt : n < xs.length := by
    have := ixN_lt hn
    exact this
  refine v_set S2 0 rfl (j := n) (by rw [hl]; exact hn) fun H' S4 => k H' ?_
  have S5 : M (starR A vs xs :: A u y :: pt p (.lst (vs.set n u)) :: Rs) H' := M.sub (.cons 1 rfl (.cons 1 rfl (.refl _))) S4
  obtain ⟨u0, hu, S6⟩ := starR_open S5 (List.getElem?_eq_getElem hlt)
  have S7 := starR_repl (Rs := pt p (.lst (vs.set n u)) :: Rs) (u := u) (y := y) hlt (M.sub (.cons 2 rfl (.cons 1 rfl (.cons 1 rfl (.tl (.refl _))))) S6) hl
  exact M.ex' _ (M.sp' (M.sub (.cons 1 rfl (.refl _)) S7))
theorem lsR_mk {vs : List V} {xs : List α} (S : M (pt p (.lst vs) :: starR A vs xs :: Rs) H) : M (lsR A p xs :: Rs) H := M.ex' vs S.sp'
end
end RC

namespace RC
open PySem PySem.Spec PyProof.Rows L2
/-! ### a, b, c = x, y, z -/
def tPar3 (i j k : Nat) (ta : TA) : TS := fun D σ H => ta σ H fun vs H1 => ∃ v w z, vs = [v, w, z] ∧ D.nx (((σ.set i (some v)).set j (some w)).set k (some z)) H1
theorem ps_par3 {X : Cx} {pos : Pos} {i j k : Nat} {x y z : Str} {a b c : Expr} {ta : TA} {px py pz pt : Pos} {kt k2 pt2} (hc : X.calm = true) (hN : X.N.Nodup) (hi : X.N[i]? = some x) (hj : X.N[j]? = some y) (hk : X.N[k]? = some z) (hij : i ≠ j) (hik : i ≠ k) (hjk : j ≠ k)
    (hx : X.env.scope.names.lookup x = some .local) (hy : X.env.scope.names.lookup y = some .local) (hz : X.env.scope.names.lookup z = some .local) (ha : PA X [a, b, c] ta)
    (hw : swappedStores [.Tuple [.Name x px, .Name y py, .Name z pz] kt pt] (.Tuple [a, b, c] k2 pt2) X.env = pure (some [x, y, z]))
    (hs : swapsWithSole [.Tuple [.Name x px, .Name y py, .Name z pz] kt pt] (.Tuple [a, b, c] k2 pt2) pos.line X.env = pure false := by rfl) :
    PS X (.Assign [.Tuple [.Name x px, .Name y py, .Name z pz] kt pt] (.Tuple [a, b, c] k2 pt2) pos) (tPar3 i j k ta) := by
  refine ⟨fun pins s σ H D I h => ?_⟩
  rw [exec_Assign_arm]
  refine wpAny_bind (wpAny_standAt ?_)
  rw [hs]
  refine wpAny_bind (wpAny_pure ?_)
  rw [if_neg (by decide)]
  refine wpAny_bind (Tuple_ (thn (ha.run _ pins s σ H _ I h) fun us s1 ⟨vs, H1, I1, r1, q1⟩ => ?_))
  obtain ⟨v, w, t, e1, q1⟩ := q1
  subst e1
  obtain ⟨u1, u2, u3, rfl, rv, rw', rz⟩ : ∃ u1 u2 u3, us = [u1, u2, u3] ∧ RelV v u1 ∧ RelV w u2 ∧ RelV t u3 := by
    cases r1 with
    | cons p q =>
      cases q with
      | cons p' q' =>
        cases q' with
        | cons p'' q'' =>
          cases q''
          exact ⟨_, _, _, rfl, p, p', p''⟩
  refine wpAny_newObj_type ?_ (by show 3 ≤ sizeLine; decide)
  have I2 : Inv X pins σ H1 { s1 with heap := s1.heap.push { cls := .type "tuple", data := .seq [u1, u2, u3].toArray } } := I1.kept (t' := s1.toks) fun b o e => Heap.get?_push_of_some _ e
  rw [hw]
  refine wpAny_bind (wpAny_pure ?_)
  show wpAny (model X.prog X.w) X.A (do rule "assign.swapped-stores"; let items ← unpackItems (.ref s1.heap.objs.size) 3 none; assignInOrder [fun v => bindName X.env z v, fun v => bindName X.env y v, fun v => bindName X.env x v] items.reverse; pure Flow.next) _ _ _
  refine wpAny_bind (wpAny_rule (wpAny_bind (unpackItems_tuple (items := #[u1, u2, u3]) (I.ok.hd hc) (IsTup.new s1.heap _) fun h' hx' => ?_)))
  have I3 := I2.kept (h' := h') (t' := s1.toks) fun b o e => hx' b o (Nat.ne_of_lt (Heap.lt_size e)) e
  show wpAny _ _ (assignInOrder [fun v => bindName X.env z v, fun v => bindName X.env y v, fun v => bindName X.env x v] [u3, u2, u1] >>= fun _ => pure Flow.next) _ _ _
  refine wpAny_bind (assignInOrder_cons (wpAny_bindName (store_ok I3 hN hk (.inl hz) rz (fun s2 I4 => ?_) (.inr hz))))
  refine assignInOrder_cons (wpAny_bindName (store_ok I4 hN hj (.inl hy) rw' (fun s3 I5 => ?_) (.inr hy)))
  refine assignInOrder_cons (wpAny_bindName (store_ok I5 hN hi (.inl hx) rv (fun s4 I6 => assignInOrder_nil (wpAny_pure ?_)) (.inr hx)))
  have e : ((σ.set k (some t)).set j (some w)).set i (some v) = ((σ.set i (some v)).set j (some w)).set k (some t) := by
    have e1 : ((σ.set k (some t)).set j (some w)).set i (some v) = ((σ.set k (some t)).set i (some v)).set j (some w) := by first | exact List.set_comm _ _ hij | exact List.set_comm _ _ (Ne.symm hij)
    have e2 : (σ.set k (some t)).set i (some v) = (σ.set i (some v)).set k (some t) := by first | exact List.set_comm _ _ hik | exact List.set_comm _ _ (Ne.symm hik)
    have e3 : ((σ.set i (some v)).set k (some t)).set j (some w) = ((σ.set i (some v)).set j (some w)).set k (some t) := by first | exact List.set_comm _ _ hjk | exact List.set_comm _ _ (Ne.symm hjk)
    rw [e1, e2, e3]
  rw [e] at I6
  exact ⟨_, H1, I6, q1⟩
section
variable {σ : L2.St} {H : Hp} {D : Ends} {i j k : Nat} {ta : TA}
theorem g_par3 (c : ta σ H fun vs H1 => ∃ v w z, vs = [v, w, z] ∧ D.nx (((σ.set i (some v)).set j (some w)).set k (some z)) H1) : tPar3 i j k ta D σ H := c
theorem v_par3 {v w z : V} (c : D.nx (((σ.set i (some v)).set j (some w)).set k (some z)) H) : ∃ v' w' z', [v, w, z] = [v', w', z'] ∧ D.nx (((σ.set i (some v')).set j (some w')).set k (some z')) H := ⟨_, _, _, rfl, c⟩
end
end RC

namespace RC
open PySem PySem.Spec PyProof.Rows L2
/-! ### d.update(d2), d.clear() -/
theorem d_upd {X : Cx} {pins : List (Addr × Obj)} {σ : L2.St} {H : Hp} {s : Shared} {a b : Addr} {A : Around} {E : Value → Shared → Prop} {kvs ms : List (Key × V)} {Q : Value → Shared → Prop} (I : Inv X pins σ H s) (e : H a = some (.dK kvs)) (e2 : Rd H b (.dK ms)) (hne : a ≠ b) (hz : kvs.length + ms.length ≤ sizeLine)
    (h : ∀ s', Inv X pins σ (upd H a (.dK (mergeK kvs ms))) s' → Q .none s') : wpAny (model X.prog X.w) A (call (.builtin "dict.update") [.ref a, .ref b]) Q E s := by
  obtain ⟨z, hd, vs, rel, dd⟩ := dk_of I.hok e
  obtain ⟨z2, hd2, ws, rel2, dd2⟩ := dk_rd I.hok e2
  refine call_meetsIn PySem.F.slot_dict_update dd.typeIs PySem.F.entry_dict_update (PySem.F.args_dict_update_2 _ _) (meets_dict_update (mixKind X.prog X.w) a b hne hd2) ⟨vs, ws, dd, dd2, by rw [← rel.length, ← rel2.length]; exact hz, fun h' dd' _ hs => h _ ?_⟩
  have he : ∃ q, h'.get? a = some q := let ⟨q, _, _, hq, _⟩ := dd'; ⟨q, hq⟩
  exact d_write (t' := s.toks) I (by rw [e]; exact True.intro) hs he (dk_new (Nat.le_trans (length_mergeK ms kvs) hz) hd (rel2.merge rel) dd')
def rDUpd : V → List V → Hp → VK → Prop := fun x vs H Q => ∃ (a b : Addr) (kvs ms : List (Key × V)), x = .ref a ∧ vs = [.ref b] ∧ H a = some (.dK kvs) ∧ Rd H b (.dK ms) ∧ a ≠ b ∧ kvs.length + ms.length ≤ 200000 ∧ Q .non (upd H a (.dK (mergeK kvs ms)))
theorem mtd_update {X : Cx} : MtR X "dict.update" rDUpd := by
  intro pins s σ H x vs v us Q I rx rv h
  obtain ⟨a, b, kvs, ms, ex, ev, e, e2, hne, hz, q⟩ := h
  subst ex
  subst ev
  obtain rfl : v = Value.ref a := rx
  obtain ⟨u, rfl, hu⟩ := rv.one
  obtain rfl : u = Value.ref b := hu
  exact d_upd I e e2 hne (Nat.le_trans hz (by decide)) fun s' I' => ⟨.non, _, I', rfl, q⟩
section
variable {K : PySem.W.Frag} {κ α : Type} {ik : κ → Key} {e : α → PyData} {m m2 : List (κ × α)} {Rs : List Res} {H : Hp} {Q : VK} {p : Addr} {v : V}
theorem M.tyD {φ : Prop} (S : M Rs H) (j : Nat) (hj : Rs[j]? = some (adR K ik e p m)) (k : φ) : tyV K "dict" (.ref p) H ∧ φ := by
  obtain ⟨kvs, h, t⟩ := S.gotDk j hj
  exact ⟨.inr (.inr (.inl ⟨rfl, .inl ⟨kvs, h⟩⟩)), k⟩
def mgD [DecidableEq κ] (m m2 : List (κ × α)) : List (κ × α) := m2.foldl (fun acc q => pk acc q.1 q.2) m
theorem v_updA [DecidableEq κ] (inj : ∀ a b, ik a = ik b → a = b) (S : M Rs H) (j i : Nat) (hj : Rs[j]? = some (adR K ik e p m)) (hi : Rs[i]? = some (da K v (eD ik e m2))) (hz : m.length + m2.length ≤ 100000) (k : ∀ H', M (adR K ik e p (mgD m m2) :: Rs.eraseIdx j) H' → Q .non H') : rDUpd (.ref p) [v] H Q := by
  have S0 : M (da K v (eD ik e m2) :: Rs) H := S.addA (EnF.at i hi)
  have S1 : M (adR K ik e p m :: da K v (eD ik e m2) :: Rs.eraseIdx j) H := S0.at (j + 1) (by simpa using hj)
  obtain ⟨kvs, S2⟩ := S1.ex
  have S3 := S2.sp
  have hl := (S3.gotT 1 rfl).len
  have hp := S3.got 0 rfl
  have S4 : M (da K v (eD ik e m2) :: pt p (.dK kvs) :: tkR K ik e kvs m :: Rs.eraseIdx j) H := M.sub (.cons 2 rfl (.refl _)) S3
  obtain ⟨b, od, ms, rfl, hk, S5⟩ := (M.addA S4 (EnF.at 0 rfl)).openDk
  have hb := S5.gotF 0 rfl
  have ne : p ≠ b := fun z => by rw [z, hb] at hp; cases hp
  have hl2 := (S5.gotT 1 rfl).len
  refine ⟨p, b, kvs, ms, rfl, rfl, hp, .inr ⟨od, hb⟩, ne, by rw [hl, hl2]; omega, k _ ?_⟩
  have S6 := S5.putAt (o' := .dK (mergeK kvs ms)) 3 rfl
  have S7 : M (pt p (.dK (mergeK kvs ms)) :: tkR K ik e kvs m :: tkR K ik e ms m2 :: Rs.eraseIdx j) _ := M.sub (.cons 3 rfl (.cons 3 rfl (.cons 1 rfl (.tl (.tl (.refl _)))))) S6
  obtain ⟨F, L, ⟨l1, l2, rfl, a, l3, l4, rfl, ⟨rfl, t1⟩, l5, l6, rfl, ⟨rfl, t2⟩, c⟩, mm⟩ := S7
  exact ⟨F, _, ⟨l1, l6, by simp, ⟨_, l1, [], by simp, a, rfl, tk_merge inj t2 t1⟩, c⟩, mm⟩
theorem v_clrA (S : M Rs H) (j : Nat) (hj : Rs[j]? = some (adR K ik e p m)) (k : ∀ H', M (adR K ik e p ([] : List (κ × α)) :: Rs.eraseIdx j) H' → Q .non H') : rDClear (.ref p) [] H Q := by
  obtain ⟨kvs, S1⟩ := adR_open S j hj
  refine ⟨p, kvs, rfl, rfl, S1.got 0 rfl, k _ ?_⟩
  have S2 := S1.putAt (o' := .dK []) 0 rfl
  have S3 : M (pt p (.dK []) :: Rs.eraseIdx j) _ := M.sub (.cons 0 rfl (.tl (.refl _))) S2
  obtain ⟨F, L, ⟨l1, l2, rfl, a, b⟩, mm⟩ := S3
  exact ⟨F, _, ⟨l1, l2, rfl, ⟨[], l1, [], by simp, a, rfl, .nil⟩, b⟩, mm⟩
end
/-! ### f() -/
section
variable {X : Cx} {CX : CXT} {g : Bool} {k : Nat} {f : Addr} {fd : FuncData} {ps : List Str} {sp : Sp} {ds : List Value} {dvs : List V} {E : XK} {W : WX} {x : Str} {p pos : Pos}
theorem pe_callX0 (F : FnX g X.prog X.w X.K X.mg X.base CX k f fd ps sp) (hgu : g = true → X.A.guards = some []) (hr : Room k X.A) (hg : Gl X x) (hm : X.mg x = some (.ref f)) (hk : PySem.W.keepIn X.K (.ref f) = true) (hb : Binds X.K fd ps ds) (hd : Vals dvs ds) (hx : Passes CX X E)
    (hdb : (x == ("__debug__" : Str)) = false := by decide) : PE X (.Call (.Name x p) [] [] pos) (tCall sp dvs E tNil) := by
  constructor
  intro pins s σ H Q I h
  refine wpAny_Call_Name_kw (ld_glob I hg hm ?_ hdb)
  exact PySem.W.callWith_K0 (first := []) I.kIn hk (runX_fn (us := []) (vs := []) F hgu hr hb hd hx I .nil h)
theorem pe_callW0 (F : FnX g X.prog X.w X.K X.mg X.base CX k f fd ps sp) (hgu : g = true → X.A.guards = some []) (hr : Room k X.A) (hg : Gl X x) (hm : X.mg x = some (.ref f)) (hk : PySem.W.keepIn X.K (.ref f) = true) (hb : Binds X.K fd ps ds) (hd : Vals dvs ds) (hx : ∀ σ, PassesAt CX X σ (WE W σ))
    (hdb : (x == ("__debug__" : Str)) = false := by decide) : PE X (.Call (.Name x p) [] [] pos) (tCallW W sp dvs tNil) := by
  constructor
  intro pins s σ H Q I h
  refine wpAny_Call_Name_kw (ld_glob I hg hm ?_ hdb)
  exact PySem.W.callWith_K0 (first := []) I.kIn hk (runW (us := []) (vs := []) F hgu hr hb hd (hx σ) I .nil h)
end
/-! ### sorted: a dict's texts, however many -/
def rSoDS : List V → Hp → VK → Prop := fun xs H Q => ∃ (d : Addr) (kvs : List (Key × V)) (ns : List Str), xs = [.ref d] ∧ Rd H d (.dK kvs) ∧ kvs.map (·.1) = ns.map Sum.inr ∧ ns.length ≤ 1000000 ∧
  ∀ (ys : List Str) (p : Addr), ys.Perm ns → sortedS ys = true → H p = none → Q (.ref p) (upd H p (.lst (ys.map V.str)))
theorem strs_each : ∀ {us : List Value} {ks : List Str}, us.length = ks.length → (∀ (j : Nat) (v : Value), us[j]? = some v → ∃ (x : Str) (t : Tok), ks[j]? = some x ∧ v = Value.str x t) → StrsAre us ks
  | [], [], _, _ => .nil
  | u :: us, k :: ks, hl, h => by
    obtain ⟨x, t, e1, e2⟩ := h 0 u rfl
    have e1' : k = x := Option.some.inj e1
    subst e1'
    subst e2
    refine .cons _ _ (strs_each (by simpa using hl) fun j v e => ?_)
    obtain ⟨x, t, a, b⟩ := h (j + 1) v (by simpa using e)
    exact ⟨x, t, by simpa using a, b⟩
  | [], _ :: _, hl, _ => by simp at hl
  | _ :: _, [], hl, _ => by simp at hl
theorem cr_soDS {X : Cx} (calm : X.calm = true) : CallR X (.builtin "sorted") rSoDS := by
  intro pins s σ H xs us Q I r hw
  obtain ⟨d, kvs, ns, e0, hd, hks, hn, q⟩ := hw
  subst e0
  obtain ⟨u, e1, ru⟩ := vals1 r
  subst e1
  cases ru
  obtain ⟨_, lo, ws, rel, dd⟩ := dk_rd I.hok hd
  obtain ⟨ep, hat⟩ := dd.dictAt
  have key : ws.map (·.1) = ns.map Sum.inr := by rw [← rel.keys]; exact hks
  have len : ws.length = ns.length := by simpa using congrArg List.length key
  have big := so_big
  refine Calls.call_function_entry kind_sorted plain_sorted entry_sorted (args_sorted1 _) ?_
  unfold Builtin.«sorted»
  refine wpAny_bind (m := checkCount "sorted" 1 1 _) (wpAny_pure ?_)
  refine wpAny_bind (PySem.W.kdu_collect (A := X.A.in1) (PySem.W.kdl_dict (knd := mixKind X.prog X.w) (kvs := ws) (ep := ep) lo) (I.ok.hd calm) hat (by omega) fun h1 tk acc hk ha => ?_)
  have la : acc.toList.length = ns.length := by rw [Array.length_toList, ha.1, len]
  have hIs : StrsAre acc.toList ns := by
    refine strs_each la fun j v z => ?_
    obtain ⟨kk, xx, z1, z2⟩ := ha.2 j v (by rw [← Array.getElem?_toList]; exact z)
    have z3 : (ns.map Sum.inr)[j]? = some kk := by
      rw [← key, List.getElem?_map, z1]
      rfl
    rw [List.getElem?_map] at z3
    obtain ⟨y, z4, rfl⟩ := Option.map_eq_some_iff.mp z3
    rcases keyIs_shape (show keyIs (Sum.inr y) v = true from z2) with ⟨i, t, ek, ev⟩ | ⟨i, t, ek, ev⟩
    · cases ek
    · cases ek
      exact ⟨y, t, z4, ev⟩
  have I1 : Inv X pins σ H { s with heap := h1, toks := tk } := I.kept hk
  refine wpAny_bind (wpAny_newList ?_ (by omega))
  show wpAny _ _ _ _ _ { s with heap := h1.push (seqObj "list" acc.toList.toArray 0), toks := tk }
  have at0 : (h1.push (seqObj "list" acc.toList.toArray 0)).get? h1.objs.size = some (seqObj "list" acc.toList.toArray 0) := Heap.get?_push_size _ rfl
  refine wpAny_bind (wpAny_holding (wpAny_call_entry slot_list_sort ⟨_, at0, rfl⟩ entry_list_sort (list_sort_treeKAny strKind_oneLt at0 hIs.keysOf (fun v₁ v₂ rest e => keyKind_strs (by rw [← e]; exact hIs)) (by omega) fun st' hp hs => ⟨_, rfl, ?_⟩) (args_list_sort _)))
  obtain ⟨ys, o1, o2, o3⟩ := sorted_out_str hIs hp hs
  refine wpAny_pure ⟨_, rfl, so_after I1 (vals_of_strs o1) ?_ fun p hp => q ys p o2 o3 hp⟩
  rw [List.length_map, o2.length_eq]
  omega
section
variable {α : Type} {K : PySem.W.Frag} {Rs : List Res} {H : Hp} {Q : VK} {v : V} {e : α → PyData}
theorem d_soS {m : List (Str × α)} (D : DVs K Rs H iS e v m) (hz : (ks m).length ≤ 1000000) (k : ∀ q H', M (acR K q ((srtS' (ks m)).map eS) :: Rs) H' → Q (.ref q) H') : rSoDS [v] H Q := by
  obtain ⟨p, kvs, F, L, rfl, h, s, mm, t⟩ := D
  refine ⟨p, kvs, ks m, rfl, h, t.keys, hz, fun ys q hp hs hn => ?_⟩
  rw [srtS_eq hp hs]
  exact k q _ (M.ownS (M.new ⟨F, L, s, mm⟩ hn))
end
end RC

namespace RC
open PySem PySem.Spec PyProof.Rows L2
/-! ### tuples of a text and a dict, equal or not -/
section
open PySem.SeqAt AutoSeq1 MeetsSeq MeetsSeq2 MeetsSeq3 SeqRoads2
variable {prog : Program} {w : World}
/-- == of tuples stops at the first that are not equal -/
theorem tup_eqStop (l b : Addr) (items items2 : Array Value) (n n2 : Nat) (dd dd2 : Option Addr) (sl sl2 : Array (Option Value)) (e : Nat → Bool) :
    MeetsIn prog w (Builtin.«tuple.__eq__» ⟨[.ref l, .ref b], []⟩)
      (fun A R s => s.heap.get? l = some { cls := .type "tuple", dict := dd, data := .seq items n, slots := sl } ∧ s.heap.get? b = some { cls := .type "tuple", dict := dd2, data := .seq items2 n2, slots := sl2 } ∧
        (∀ j (h1 : j < items.size) (h2 : j < items2.size), (∀ i, i < j → e i = true) → EqP prog w A.in1 s items[j] items2[j] (e j)) ∧
        R (.ok (.ret (.bool ((List.range (min items.size items2.size)).all e && items.size == items2.size)))) s) :=
  .of_wp fun A R s h => by
    obtain ⟨hp, g, d, tk, os⟩ := s; obtain ⟨hl, hb, he, h⟩ := h
    have f2 := AutoSeq1.sub_tuple_tuple
    have hZ : (items.toList.zip items2.toList).length = min items.size items2.size := by simp
    wp_walk using wpAny_loadPart' hl, wpAny_loadPart' hb, wpAny_forIn_list _ (fun rest b s' => b.1 = none ∧ s' = ⟨hp, g, d, tk, os⟩ ∧ ∃ i, rest = (items.toList.zip items2.toList).drop i ∧ (∀ k, k < i → e k = true) ∧
      R (.ok (.ret (.bool (((List.range (min items.size items2.size)).drop i).all e && items.size == items2.size)))) ⟨hp, g, d, tk, os⟩) _
    case turn =>
      rintro ⟨y, x⟩ rest b s' ⟨hb', rfl, i, hz, hpre, hR⟩
      have hlt : i < (items.toList.zip items2.toList).length := by
        rcases Nat.lt_or_ge i (items.toList.zip items2.toList).length with h' | h'
        · exact h'
        · rw [List.drop_of_length_le h'] at hz; cases hz
      have hm : i < min items.size items2.size := hZ ▸ hlt
      have h1 : i < items.size := Nat.lt_of_lt_of_le hm (Nat.min_le_left _ _)
      have h2 : i < items2.size := Nat.lt_of_lt_of_le hm (Nat.min_le_right _ _)
      rw [List.drop_eq_getElem_cons hlt] at hz
      injection hz with hyx hrest
      have hy : y = items[i] := by have := congrArg Prod.fst hyx; simpa using this
      have hx : x = items2[i] := by have := congrArg Prod.snd hyx; simpa using this
      subst hy hx
      have hd : (List.range (min items.size items2.size)).drop i = i :: (List.range (min items.size items2.size)).drop (i + 1) := by simp [List.drop_eq_getElem_cons, hm]
      rw [hd, List.all_cons] at hR
      refine wpAny_bind (he i h1 h2 hpre _ _ ?_)
      cases hy : e i with
      | true =>
        rw [hy] at hR
        wp_walk
        refine ⟨rfl, rfl, i + 1, hrest, fun k hk => ?_, by simpa using hR⟩
        rcases Nat.lt_succ_iff_lt_or_eq.mp hk with z | z
        · exact hpre k z
        · rw [z]; exact hy
      | false =>
        rw [hy] at hR
        wp_walk
        exact ⟨_, rfl, by simpa using hR⟩
    case fin =>
      rintro ⟨b1, b2⟩ s' ⟨hb', rfl, i, hz, hpre, hR⟩
      simp only at hb'
      subst hb'
      have hge : min items.size items2.size ≤ i := by
        rcases Nat.lt_or_ge i (items.toList.zip items2.toList).length with h' | h'
        · rw [List.drop_eq_getElem_cons h'] at hz; cases hz
        · exact hZ ▸ h'
      rw [List.drop_of_length_le (by simpa using hge)] at hR
      wp_walk
      exact ⟨_, rfl, by simpa [Builtin.Tuple.tupleCompareSizes] using hR⟩
    case h => exact ⟨rfl, rfl, 0, rfl, fun k hk => absurd hk (Nat.not_lt_zero _), by simpa using h⟩
theorem rcP_tups {A : Around} {s : Shared} {l b : Addr} {items items2 : Array Value} {e : Nat → Bool} (hl : s.heap.IsTuple l items) (hb : s.heap.IsTuple b items2) (hu : A.units < cLine)
    (he : ∀ j (h1 : j < items.size) (h2 : j < items2.size), (∀ i, i < j → e i = true) → EqP prog w A.in1 s items[j] items2[j] (e j)) (E Q : Value → Shared → Prop) (h : Q (.bool ((List.range (min items.size items2.size)).all e && items.size == items2.size)) s) : wpAny (model prog w) A (richCompare .Eq (.ref l) (.ref b)) Q E s := by
  obtain ⟨⟨cls, dd, data, sl⟩, ho, hc, n, hd⟩ := id hl
  obtain ⟨⟨cls2, dd2, data2, sl2⟩, ho2, hc2, n2, hd2⟩ := id hb
  simp only at hc hd hc2 hd2
  subst hc hd hc2 hd2
  have ta : s.TypeIs (.ref l) "tuple" := ⟨_, ho, rfl⟩
  have tb : s.TypeIs (.ref b) "tuple" := ⟨_, ho2, rfl⟩
  exact wpAny_richCompare_same_room (op := .Eq) ta tb F.slot_tuple_eq (call_meetsIn F.slot_tuple_eq ta F.entry_tuple_eq (F.args_tuple_eq_2 _ _) (tup_eqStop l b items items2 n n2 dd dd2 sl sl2 e)
    ⟨ho, ho2, he, show Value.bool ((List.range (min items.size items2.size)).all e && items.size == items2.size) ≠ Value.notImplemented ∧ Q (.bool ((List.range (min items.size items2.size)).all e && items.size == items2.size)) s from ⟨(fun x => nomatch x), h⟩⟩) hu
end
/-- two tuples: the same, or a text otherwise, or a dict otherwise -/
inductive EqTD : PyData → PyData → Bool → Prop
  | same {d : PyData} (h : dOk d) (hd : d.depth ≤ 60) : EqTD d d true
  | word {s t : Str} {x y : PyData} (h : s ≠ t) (h1 : EqOk (eS s)) (h2 : EqOk (eS t)) : EqTD (.tuple [.str s, x]) (.tuple [.str t, y]) false
  | dict {s : Str} {m n : List (Str × List Int)} (h : m ≠ n) (h1 : EqOk (eS s)) (hd : dEq m n = false) : EqTD (.tuple [.str s, eD iS (eL eI) m]) (.tuple [.str s, eD iS (eL eI) n]) false
section
variable {X : Cx} {pins : List (Addr × Obj)} {σ : L2.St} {H : Hp} {s : Shared}
theorem Dn.one (I : Inv X pins σ H s) (sy : SysD s.heap) {v : V} {u : Value} {d d' : PyData} (h1 : Dn X.K H v d) (h2 : Dn X.K H v d') (r : RelV v u) (c : d.canLay0 = true) : d = d' := by
  obtain ⟨as, r1, _⟩ := h1.reads I sy r
  obtain ⟨bs, r2, _⟩ := h2.reads I sy r
  exact SeqAt.Reads.unique _ _ _ _ _ c r1 r2
def rEqTD (K : PySem.W.Frag) : R2 := fun x y H Q => ∃ d d' b, Dn K H x d ∧ Dn K H y d' ∧ EqTD d d' b ∧ Q (.bl b) H
theorem dnT2 {K : PySem.W.Frag} {v : V} {d e : PyData} (h : Dn K H v (.tuple [d, e])) : ∃ a x y, v = .ref a ∧ SqT K H a [x, y] ∧ Dn K H x d ∧ Dn K H y e := by
  cases h with
  | tup h q =>
    cases q with
    | cons a q =>
      cases q with
      | cons b q =>
        cases q
        exact ⟨_, _, _, rfl, h, a, b⟩
theorem dnStr {K : PySem.W.Frag} {v : V} {s : Str} (h : Dn K H v (.str s)) : v = .str s := by cases h; rfl
theorem tkv_one {e : List Int → PyData} (T : EqT e) (I : Inv X pins σ H s) (sy : SysD s.heap) {kvs : List (Key × V)} {m : List (Str × List Int)} (h1 : TKv X.K H iS e kvs m) : ∀ {n : List (Str × List Int)} {vs : List (Key × Value)}, KV kvs vs → TKv X.K H iS e kvs n → m = n := by
  induction h1 with
  | nil =>
    intro n vs r h
    cases h
    rfl
  | @cons k v x r m a t ih =>
    intro n vs rr h
    generalize hk : iS k = kk at h rr
    cases h with
    | @cons k2 _ y _ _ b t2 =>
      unfold KV at rr
      cases rr with
      | cons r1 r2 =>
        have e1 : k = k2 := Sum.inr.inj hk
        have e2 := Dn.one I sy a.dn b.dn r1.2 (shaped_depth (T.sh x)).1
        have e3 : x = y := by
          have := T.ev x y
          rw [← e2, SeqAt.eqv_refl _ (shaped_depth (T.sh x)).1] at this
          exact of_decide_eq_true this.symm
        rw [e1, e3, ih r2 t2]
theorem dqDct {K : PySem.W.Frag} {v : V} {m : List (Str × List Int)} (h : Dq K H v (eD iS (eL eI) m)) : ∃ p od ks, v = .ref p ∧ H p = some (.frz od (.dK ks)) ∧ TKv K H iS (eL eI) ks m := by
  unfold eD at h
  cases h with
  | dct hp tp => exact ⟨_, _, _, rfl, hp, tp.tkv⟩
theorem dqT2 {K : PySem.W.Frag} {v : V} {d e : PyData} (h : Dq K H v (.tuple [d, e])) : ∃ a x y, v = .ref a ∧ SqT K H a [x, y] ∧ Dq K H x d ∧ Dq K H y e := by
  cases h with
  | tup h q =>
    cases q with
    | cons a q =>
      cases q with
      | cons b q =>
        cases q
        exact ⟨_, _, _, rfl, h, a, b⟩
theorem eqStrP (A : Around) (hu : A.units + 65 < cLine) {i j : Str} {v u : Value} (rv : RelV (.str i) v) (ru : RelV (.str j) u) (h1 : EqOk (eS i)) (h2 : EqOk (eS j)) (b : Bool) (hb : PyData.eqv (eS i) (eS j) = b) : SeqAt.EqP X.prog X.w A s v u b := by
  obtain ⟨t1, rfl⟩ := rv
  obtain ⟨t2, rfl⟩ := ru
  rw [← hb]
  have d1 := shaped_depth h1
  have d2 := shaped_depth h2
  exact (SeqAt.eqAt_reads (.str i) (.str j) A s _ _ _ _ (.str i t1) (.str j t2) d1.1 d2.1 (by have : min (PyData.str i).depth (PyData.str j).depth ≤ 64 := Nat.le_trans (Nat.min_le_left _ _) d1.2; omega)).eqP
end
section
variable {X : Cx}
def rEqTd (K : PySem.W.Frag) : R2 := fun x y H Q => ∃ d d' b, Dq K H x d ∧ Dq K H y d' ∧ EqTD d d' b ∧ Q (.bl b) H
theorem op_eqTD (hy : SysD X.base) (hu : X.A.units + 128 < cLine) : OpR X (compareOp .Eq) (rEqTd X.K) := by
  intro pins s σ H x y v u Q I rx ry h
  obtain ⟨d, d', b, h1, h2, hb, q⟩ := h
  have hu2 : X.A.in1.units + 65 < cLine := by show X.A.units + 1 + 65 < cLine; omega
  cases hb with
  | same ok hd => exact op_eqW hu pins s σ H x y v u Q I rx ry ⟨_, h1.dn, h2.dn, ok, hd, q⟩
  | @word i j d0 e0 hne g1 g2 =>
    obtain ⟨a, x0, x1, rfl, ha, ax, bx⟩ := dqT2 h1
    obtain ⟨b, y0, y1, rfl, hb, ay, by_⟩ := dqT2 h2
    obtain rfl : v = Value.ref a := rx
    obtain rfl : u = Value.ref b := ry
    obtain ⟨us, r1, p1, _⟩ := I.tuple ha
    obtain ⟨ws, r2, p2, _⟩ := I.tuple hb
    cases r1 with
    | cons c1 r1 =>
      cases r1 with
      | cons c2 r1 =>
        cases r1
        cases r2 with
        | cons f1 r2 =>
          cases r2 with
          | cons f2 r2 =>
            cases r2
            rw [dnStr ax.dn] at c1
            rw [dnStr ay.dn] at f1
            refine rcP_tups p1 p2 (by omega) (e := fun k => decide (k ≠ 0)) (fun k k1 k2 hp => ?_) _ _ ?_
            · cases k with
              | zero => exact eqStrP X.A.in1 hu2 c1 f1 g1 g2 _ (by simp [PyData.eqv, hne])
              | succ k => exact absurd (hp 0 (Nat.succ_pos k)) (by simp)
            · exact ⟨.bl _, H, I, rfl, q⟩
  | @dict i m n hne g1 hd =>
    obtain ⟨a, x0, x1, rfl, ha, ax, bx⟩ := dqT2 h1
    obtain ⟨b, y0, y1, rfl, hb, ay, by_⟩ := dqT2 h2
    obtain rfl : v = Value.ref a := rx
    obtain rfl : u = Value.ref b := ry
    obtain ⟨us, r1, p1, _⟩ := I.tuple ha
    obtain ⟨ws, r2, p2, _⟩ := I.tuple hb
    cases r1 with
    | cons c1 r1 =>
      cases r1 with
      | cons c2 r1 =>
        cases r1
        cases r2 with
        | cons f1 r2 =>
          cases r2 with
          | cons f2 r2 =>
            cases r2
            rw [dnStr ax.dn] at c1
            rw [dnStr ay.dn] at f1
            obtain ⟨p, od, ks, rfl, hp, tm⟩ := dqDct bx
            obtain ⟨q', od', ls, rfl, hq, tn⟩ := dqDct by_
            have hsy := hy.now I
            obtain ⟨_, na, wa, ka, oa⟩ := dk_rd I.hok (show Rd H p (.dK ks) from .inr ⟨_, hp⟩)
            obtain ⟨_, nb, wb, kb, ob⟩ := dk_rd I.hok (show Rd H q' (.dK ls) from .inr ⟨_, hq⟩)
            have hpq : p ≠ q' := fun z => by
              subst z
              rw [hp] at hq
              injection hq with hq
              injection hq with _ hq
              injection hq with hq
              subst hq
              exact hne (tkv_one eqtLI I hsy tm ka tn)
            obtain rfl : _ = Value.ref p := c2
            obtain rfl : _ = Value.ref q' := f2
            refine rcP_tups p1 p2 (by omega) (e := fun k => decide (k = 0)) (fun k k1 k2 hpre => ?_) _ _ ?_
            · cases k with
              | zero => exact eqStrP X.A.in1 hu2 c1 f1 g1 g1 _ (by simp [PyData.eqv])
              | succ k =>
                cases k with
                | zero =>
                  refine SeqAt.eqP_refs hpq fun E Q' hq' => PySem.W.rcP_dicts na nb oa ob (by show X.A.units + 1 < cLine; omega) (fun _ => hitsV_run I (A := X.A.in1.in1) (by show X.A.units + 1 + 1 + 65 < cLine; omega) kb (tkv_hits eqtLI injS tn tm) ka) E Q' ?_
                  have e1 : (wa.length == wb.length && m.all fun p => decide (lk n p.1 = some p.2)) = false := by
                    rw [← ka.length, ← kb.length, tm.len, tn.len]
                    exact hd
                  rw [e1]
                  exact hq'
                | succ k => exact absurd k1 (by simp)
            · exact ⟨.bl _, H, I, rfl, q⟩
def uEqT (K : PySem.W.Frag) : R2 := fun x y H Q => uEqQ K x y H Q ∨ rEqTd K x y H Q
theorem uo_eqT (hy : SysD X.base) (hu : X.A.units + 128 < cLine) : OpR X (compareOp .Eq) (uEqT X.K) := (uo_eqQ hu).or (op_eqTD hy hu)
theorem v_eqT {K : PySem.W.Frag} {H : Hp} {Q : VK} {v w : V} {d e : PyData} {b : Bool} (h1 : Dq K H v d) (h2 : Dq K H w e) (h : EqTD d e b) (k : Q (.bl b) H) : uEqT K v w H Q := .inr ⟨_, _, _, h1, h2, h, k⟩
end
end RC

namespace RC
open PySem PySem.Spec PyProof.Rows L2
/-! ### walks over a list of one's own of things of one's own -/
/-- the same, its values known -/
def lsW {α : Type} (A : V → α → Res) (p : Addr) (vs : List V) (xs : List α) : Res := sp2 (pt p (.lst vs)) (starR A vs xs)
section
variable {K : PySem.W.Frag} {α β γ : Type} {Rs : List Res} {H : Hp} {σ : L2.St} {D : Ends} {A : V → α → Res} {B : V → β → Res} {p : Addr} {Q : VK} {vs : List V} {xs : List α}
theorem lsR_W (S : M (lsR A p xs :: Rs) H) : ∃ vs, M (lsW A p vs xs :: Rs) H := S.ex
theorem lsW_R (S : M (lsW A p vs xs :: Rs) H) : M (lsR A p xs :: Rs) H := M.ex' vs S
theorem lsW_len (S : M Rs H) (j : Nat) (hj : Rs[j]? = some (lsW A p vs xs)) : SqL K H p vs ∧ vs.length = xs.length := by
  have S1 : M (pt p (.lst vs) :: starR A vs xs :: Rs.eraseIdx j) H := (S.at j hj).sp
  exact ⟨SqL.of (S1.got 0 rfl), starR_len (S1.at 1 rfl)⟩
theorem lsW_open {n : Nat} {v : V} {x : α} (S : M Rs H) (j : Nat) (hj : Rs[j]? = some (lsW A p vs xs)) (hv : vs[n]? = some v) (hx : xs[n]? = some x) : M (A v x :: pt p (.lst vs) :: starR A (vs.eraseIdx n) (xs.eraseIdx n) :: Rs.eraseIdx j) H := by
  have S1 : M (pt p (.lst vs) :: starR A vs xs :: Rs.eraseIdx j) H := (S.at j hj).sp
  obtain ⟨u, hu, S3⟩ := starR_open (S1.at 1 rfl) hx
  rw [hv] at hu
  cases hu
  exact M.sub (.cons 0 rfl (.cons 1 rfl (.refl _))) S3
theorem lsW_close {n : Nat} {u : V} {x y : α} (hv : vs[n]? = some u) (hx : xs[n]? = some x) (S : M (A u y :: pt p (.lst vs) :: starR A (vs.eraseIdx n) (xs.eraseIdx n) :: Rs) H) : M (lsW A p vs (xs.set n y) :: Rs) H := by
  have hl : n < xs.length := by
    cases Nat.lt_or_ge n xs.length with
    | inl h => exact h
    | inr h => rw [List.getElem?_eq_none h] at hx; cases hx
  have S2 := starR_close (Rs := pt p (.lst vs) :: Rs) hv hl (M.sub (.cons 0 rfl (.cons 1 rfl (.refl _))) S)
  exact M.sp' (M.sub (.cons 1 rfl (.refl _)) S2)
theorem lsW_same {n : Nat} {u : V} {x : α} (hv : vs[n]? = some u) (hx : xs[n]? = some x) (S : M (A u x :: pt p (.lst vs) :: starR A (vs.eraseIdx n) (xs.eraseIdx n) :: Rs) H) : M (lsW A p vs xs :: Rs) H := by
  have := lsW_close hv hx S
  have e : xs.set n x = xs := by
    refine List.ext_getElem? fun i => ?_
    rw [List.getElem?_set]
    by_cases z : n = i
    · subst z
      rw [if_pos rfl, hx]
      have hl : n < xs.length := by
        cases Nat.lt_or_ge n xs.length with
        | inl h => exact h
        | inr h => rw [List.getElem?_eq_none h] at hx; cases hx
      rw [if_pos hl]
    · rw [if_neg z]
  rwa [e] at this
/-- for, the things stay as they are -/
theorem for_lsX {F : α → β → (β → Prop) → Prop} {s0 : β} {KK : β → Prop} {g : TG} {tb : TS} (hf : forD F xs s0 KK) (Inv : β → L2.St → Hp → Prop) (h0 : Inv s0 σ H)
    (hrd : ∀ s σ H, Inv s σ H → SqL K H p vs ∧ vs.length = xs.length)
    (hs : ∀ (i : Nat) v x s σ H (kk : β → Prop), Inv s σ H → vs[i]? = some v → xs[i]? = some x → F x s kk → g v σ H fun σ2 H2 => tb ⟨fun σ H => ∃ s', kk s' ∧ Inv s' σ H, D.rt, D.nx, fun σ H => ∃ s', kk s' ∧ Inv s' σ H⟩ σ2 H2)
    (hd : ∀ s σ H, KK s → Inv s σ H → D.nx σ H) : ForW (Itl K p) g tb D σ H := by
  have hl := (hrd s0 σ H h0).2
  refine for_W walk_list (fun i σ H => ∃ s, forD F (xs.drop i) s KK ∧ Inv s σ H) ⟨s0, by simpa using hf, h0⟩ (fun i σ H _ ⟨s, _, h⟩ => (hrd s σ H h).1) ?_ ?_
  · rintro i v σ H H' hi ⟨s, hf, h⟩ ⟨rfl, hv⟩
    have hi2 : i < xs.length := by omega
    rw [List.drop_eq_getElem_cons hi2] at hf
    exact hs i v _ s σ H' _ h hv (List.getElem?_eq_getElem hi2) hf
  · rintro σ H ⟨s, hf, h⟩
    rw [hl, List.drop_length] at hf
    exact hd s σ H hf h
/-- for, the things may be changed: by their places -/
theorem for_lsI {F : Nat → β → (β → Prop) → Prop} {s0 : β} {KK : β → Prop} {g : TG} {tb : TS} {n : Nat} (hf : forD F (List.range n) s0 KK) (Inv : β → L2.St → Hp → Prop) (h0 : Inv s0 σ H) (hn : vs.length = n)
    (hrd : ∀ s σ H, Inv s σ H → SqL K H p vs)
    (hs : ∀ (i : Nat) v s σ H (kk : β → Prop), Inv s σ H → vs[i]? = some v → F i s kk → g v σ H fun σ2 H2 => tb ⟨fun σ H => ∃ s', kk s' ∧ Inv s' σ H, D.rt, D.nx, fun σ H => ∃ s', kk s' ∧ Inv s' σ H⟩ σ2 H2)
    (hd : ∀ s σ H, KK s → Inv s σ H → D.nx σ H) : ForW (Itl K p) g tb D σ H := by
  refine for_W walk_list (fun i σ H => ∃ s, forD F ((List.range n).drop i) s KK ∧ Inv s σ H) ⟨s0, by simpa using hf, h0⟩ (fun i σ H _ ⟨s, _, h⟩ => hrd s σ H h) ?_ ?_
  · rintro i v σ H H' hi ⟨s, hf, h⟩ ⟨rfl, hv⟩
    have hi2 : i < (List.range n).length := by rw [List.length_range]; omega
    rw [List.drop_eq_getElem_cons hi2, List.getElem_range] at hf
    exact hs i v s σ H' _ h hv hf
  · rintro σ H ⟨s, hf, h⟩
    rw [List.drop_of_length_le (by rw [List.length_range]; omega)] at hf
    exact hd s σ H hf h
/-- a comprehension, the things stay as they are -/
theorem lc_lsX {te : TE} {tt : TT} {g : TG} {ws : List Nat} {F : α → (Option β → Prop) → Prop} {e' : β → PyData} {KK : List β → Prop} (hf : xs.length ≤ 100000 ∧ lcD F xs [] KK) (S : M Rs H)
    (hrd : ∀ H, M Rs H → SqL K H p vs ∧ vs.length = xs.length)
    (hs : ∀ (i : Nat) v x (acc : List β) E H (kk : Option β → Prop) (N : Hp → Prop), (acc.map e').length < 100000 → M (acR K E (acc.map e') :: Rs) H → vs[i]? = some v → xs[i]? = some x → F x kk →
      (∀ y H, kk (some y) → M (acR K E (acc.map e' ++ [e' y]) :: Rs) H → N H) → (∀ H, kk none → M (acR K E (acc.map e') :: Rs) H → N H) → g v (wipe σ ws) H fun σ2 H2 => wipe σ2 ws = wipe σ ws ∧ tt σ2 H2 fun b H3 =>
      if b = true then te σ2 H3 (LcK N E) else N H3)
    (hd : ∀ E (acc : List β) H, KK acc → M (acR K E (acc.map e') :: Rs) H → Q (.ref E) H) : LcW (Itl K p) g tt te ws σ Q H := by
  obtain ⟨hz, hf⟩ := hf
  have hl := (hrd H S).2
  refine lc_X walk_list (fun E i H => ∃ acc, lcD F (xs.drop i) acc KK ∧ acc.length ≤ i ∧ M (acR K E (acc.map e') :: Rs) H) (fun E hE => ⟨[], by simpa using hf, Nat.le_refl _, acR_nil (S.new hE)⟩) (fun E i H _ ⟨acc, _, _, S⟩ => (hrd H S.tl).1) ?_ ?_
  · rintro E i v H H' hi ⟨acc, hf, ha, S⟩ ⟨rfl, hv⟩
    have hi2 : i < xs.length := by omega
    rw [List.drop_eq_getElem_cons hi2] at hf
    refine hs i v _ acc E H' _ _ (by rw [List.length_map]; omega) S hv (List.getElem?_eq_getElem hi2) hf (fun y H hk S => ⟨acc ++ [y], hk, by rw [List.length_append]; simpa using ha, by rw [List.map_append]; exact S⟩) (fun H hk S => ⟨acc, ?_, by omega, S⟩)
    simpa using hk
  · rintro E H ⟨acc, hf, ha, S⟩
    rw [hl, List.drop_length] at hf
    exact hd E acc H hf S
/-- a list of one's own of things of one's own, that a comprehension makes -/
theorem lsR_put {N : Hp → Prop} {E : Addr} {ys : List β} {u : V} {y : β} (S : M (B u y :: lsR B E ys :: Rs) H) (hz : ys.length < 100000) (k : ∀ H', M (lsR B E (ys ++ [y]) :: Rs) H' → N H') : LcK N E u H := by
  obtain ⟨ws, S1⟩ := (S.at 1 rfl).ex
  have S2 := S1.sp
  have hl := starR_len (S2.at 1 rfl)
  refine ⟨ws, S2.got 0 rfl, Nat.lt_of_lt_of_le (by rw [hl]; exact hz) (by decide), k _ ?_⟩
  have S3 := S2.putAt (o' := .lst (ws ++ [u])) 0 rfl
  have S4 : M (B u y :: starR B ws ys :: pt E (.lst (ws ++ [u])) :: Rs) _ := M.sub (.cons 2 rfl (.cons 1 rfl (.refl _))) S3
  exact M.ex' _ (M.sp' (M.sub (.cons 1 rfl (.refl _)) (starR_put S4)))
/-- a comprehension that makes things of one's own, over numbers -/
theorem lo_rng {te : TE} {tt : TT} {g : TG} {ws : List Nat} {F : Int → (Option β → Prop) → Prop} {n : Int} {KK : List β → Prop} (hf : (rng n).length ≤ 100000 ∧ lcD F (rng n) [] KK) (S : M Rs H)
    (hs : ∀ x (acc : List β) E H (kk : Option β → Prop) (N : Hp → Prop), acc.length < 100000 → M (lsR B E acc :: Rs) H → F x kk →
      (∀ y H, kk (some y) → M (lsR B E (acc ++ [y]) :: Rs) H → N H) → (∀ H, kk none → M (lsR B E acc :: Rs) H → N H) → g (.int x) (wipe σ ws) H fun σ2 H2 => wipe σ2 ws = wipe σ ws ∧ tt σ2 H2 fun b H3 =>
      if b = true then te σ2 H3 (LcK N E) else N H3)
    (hd : ∀ E (acc : List β) H, KK acc → M (lsR B E acc :: Rs) H → Q (.ref E) H) : LcW (Itr 0 n.toNat) g tt te ws σ Q H := by
  obtain ⟨hz, hf⟩ := hf
  rw [rng_len] at hz
  refine lc_X walk_range (fun E i H => ∃ acc, lcD F ((rng n).drop i) acc KK ∧ acc.length ≤ i ∧ M (lsR B E acc :: Rs) H) (fun E hE => ⟨[], by simpa using hf, Nat.le_refl _, lsR_nil (S.new hE)⟩) (fun E i H _ _ => trivial) ?_ ?_
  · rintro E i v H H' hi ⟨acc, hf, ha, S⟩ ⟨rfl, rfl⟩
    have hi2 : i < (rng n).length := by rw [rng_len]; exact hi
    rw [List.drop_eq_getElem_cons hi2] at hf
    have e : (rng n)[i] = (0 : Int) + (i : Nat) := Option.some.inj ((List.getElem?_eq_getElem hi2).symm.trans (rng_get hi))
    rw [e] at hf
    refine hs _ acc E H' _ _ (by omega) S hf (fun y H hk S => ⟨acc ++ [y], hk, by rw [List.length_append]; simpa using ha, S⟩) (fun H hk S => ⟨acc, ?_, by omega, S⟩)
    simpa using hk
  · rintro E H ⟨acc, hf, ha, S⟩
    rw [← rng_len, List.drop_length] at hf
    exact hd E acc H hf S
/-- the same over a list that is data -/
theorem lo_lst {te : TE} {tt : TT} {g : TG} {ws : List Nat} {F : α → (Option β → Prop) → Prop} {e : α → PyData} {KK : List β → Prop} {a : Addr} (hf : xs.length ≤ 100000 ∧ lcD F xs [] KK) (S : M Rs H)
    (hrd : ∀ H, M Rs H → SqL K H a vs ∧ DqAll K H vs (xs.map e))
    (hs : ∀ (i : Nat) v x (acc : List β) E H (kk : Option β → Prop) (N : Hp → Prop), acc.length < 100000 → M (lsR B E acc :: Rs) H → vs[i]? = some v → xs[i]? = some x → F x kk →
      (∀ y H, kk (some y) → M (lsR B E (acc ++ [y]) :: Rs) H → N H) → (∀ H, kk none → M (lsR B E acc :: Rs) H → N H) → g v (wipe σ ws) H fun σ2 H2 => wipe σ2 ws = wipe σ ws ∧ tt σ2 H2 fun b H3 =>
      if b = true then te σ2 H3 (LcK N E) else N H3)
    (hd : ∀ E (acc : List β) H, KK acc → M (lsR B E acc :: Rs) H → Q (.ref E) H) : LcW (Itl K a) g tt te ws σ Q H := by
  obtain ⟨hz, hf⟩ := hf
  have hl : vs.length = xs.length := by
    have := (hrd H S).2.len
    rwa [List.length_map] at this
  refine lc_X walk_list (fun E i H => ∃ acc, lcD F (xs.drop i) acc KK ∧ acc.length ≤ i ∧ M (lsR B E acc :: Rs) H) (fun E hE => ⟨[], by simpa using hf, Nat.le_refl _, lsR_nil (S.new hE)⟩) (fun E i H _ ⟨acc, _, _, S⟩ => (hrd H S.tl).1) ?_ ?_
  · rintro E i v H H' hi ⟨acc, hf, ha, S⟩ ⟨rfl, hv⟩
    have hi2 : i < xs.length := by omega
    rw [List.drop_eq_getElem_cons hi2] at hf
    refine hs i v _ acc E H' _ _ (by omega) S hv (List.getElem?_eq_getElem hi2) hf (fun y H hk S => ⟨acc ++ [y], hk, by rw [List.length_append]; simpa using ha, S⟩) (fun H hk S => ⟨acc, ?_, by omega, S⟩)
    simpa using hk
  · rintro E H ⟨acc, hf, ha, S⟩
    rw [hl, List.drop_length] at hf
    exact hd E acc H hf S
/-- a comprehension that takes the things out of the list -/
theorem lo_take {te : TE} {tt : TT} {g : TG} {ws : List Nat} {F : α → (Option β → Prop) → Prop} {KK : List β → Prop} (hf : xs.length ≤ 100000 ∧ lcD F xs [] KK) (S : M (lsW A p vs xs :: Rs) H)
    (hs : ∀ v x (acc : List β) E r1 r2 H (kk : Option β → Prop) (N : Hp → Prop), acc.length < 100000 → M (A v x :: lsR B E acc :: starR A r1 r2 :: pt p (.lst vs) :: Rs) H → F x kk →
      (∀ y H, kk (some y) → M (lsR B E (acc ++ [y]) :: starR A r1 r2 :: pt p (.lst vs) :: Rs) H → N H) → (∀ H, kk none → M (lsR B E acc :: starR A r1 r2 :: pt p (.lst vs) :: Rs) H → N H) → g v (wipe σ ws) H fun σ2 H2 => wipe σ2 ws = wipe σ ws ∧ tt σ2 H2 fun b H3 =>
      if b = true then te σ2 H3 (LcK N E) else N H3)
    (hd : ∀ E (acc : List β) H, KK acc → M (lsR B E acc :: pt p (.lst vs) :: Rs) H → Q (.ref E) H) : LcW (Itl K p) g tt te ws σ Q H := by
  obtain ⟨hz, hf⟩ := hf
  have S0 : M (pt p (.lst vs) :: starR A vs xs :: Rs) H := S.sp
  have hl : vs.length = xs.length := starR_len (S0.at 1 rfl)
  have hrd : ∀ E acc r1 r2 H, M (lsR B E acc :: starR A r1 r2 :: pt p (.lst vs) :: Rs) H → SqL K H p vs := fun E acc r1 r2 H S => SqL.of (S.got 2 rfl)
  refine lc_X walk_list (fun E i H => ∃ acc, lcD F (xs.drop i) acc KK ∧ acc.length ≤ i ∧ M (lsR B E acc :: starR A (vs.drop i) (xs.drop i) :: pt p (.lst vs) :: Rs) H) (fun E hE => ⟨[], by simpa using hf, Nat.le_refl _, lsR_nil (M.sub (.cons 0 rfl (.cons 1 rfl (.refl _))) (S0.new hE))⟩) (fun E i H _ ⟨acc, _, _, S⟩ => hrd _ _ _ _ _ S) ?_ ?_
  · rintro E i v H H' hi ⟨acc, hf, ha, S⟩ ⟨rfl, hv⟩
    have hi2 : i < xs.length := by omega
    have ev : vs[i] = v := Option.some.inj ((List.getElem?_eq_getElem hi).symm.trans hv)
    rw [List.drop_eq_getElem_cons hi2] at hf S
    rw [List.drop_eq_getElem_cons hi, ev] at S
    have S1 : M (A v xs[i] :: starR A (vs.drop (i + 1)) (xs.drop (i + 1)) :: lsR B E acc :: pt p (.lst vs) :: Rs) H' := (S.at 1 rfl).sp
    refine hs v _ acc E (vs.drop (i + 1)) (xs.drop (i + 1)) H' _ _ (by omega) (M.sub (.cons 0 rfl (.cons 1 rfl (.refl _))) S1) hf (fun y H hk S => ⟨acc ++ [y], hk, by rw [List.length_append]; simpa using ha, S⟩) (fun H hk S => ⟨acc, ?_, by omega, S⟩)
    simpa using hk
  · rintro E H ⟨acc, hf, ha, S⟩
    rw [hl, List.drop_length] at hf
    exact hd E acc H hf (M.sub (.cons 0 rfl (.tl (.refl _))) S)
/-- a list of one's own of which no more is known than how many things it has -/
def goneR (_ : V) (_ : Unit) : Res := emR
theorem lsR_gone : ∀ (vs : List V), M (pt p (.lst vs) :: Rs) H → M (lsR goneR p (vs.map fun _ => ()) :: Rs) H := fun vs S => by
  refine M.ex' vs (M.sp' ?_)
  have key : ∀ (vs : List V) (Rs : List Res), M Rs H → M (starR goneR vs (vs.map fun _ => ()) :: Rs) H := fun vs => by
    induction vs with
    | nil => exact fun Rs S => S.addE
    | cons v vs ih =>
      intro Rs S
      exact M.sp' ((ih Rs S).addE)
  exact (M.sub (.cons 1 rfl (.refl _)) (key vs _ S))
theorem v_apGone {u : V} {n : List Unit} (S : M Rs H) (j : Nat) (hj : Rs[j]? = some (lsR goneR p n)) (hz : n.length < 100000) (k : ∀ H', M (lsR goneR p (n ++ [()]) :: Rs.eraseIdx j) H' → Q .non H') : rAppend (.ref p) [u] H Q :=
  v_apLs (u := u) (y := ()) ((S.at j hj).addE) hz k
theorem lsR_gone' (hl : vs.length = xs.length) (S : M (pt p (.lst vs) :: Rs) H) : M (lsR goneR p (xs.map fun _ => ()) :: Rs) H := by
  have e : (vs.map fun _ => ()) = xs.map fun _ => () := by
    refine List.ext_getElem (by rw [List.length_map, List.length_map, hl]) fun i h1 h2 => rfl
  rw [← e]
  exact lsR_gone vs S
/-- a tuple with parts of one's own -/
theorem M.odTC {l : List OD} (S : M (pt p (.tup vs) :: starR (odR K) vs l :: Rs) H) : M (odR K (.ref p) (.ot l) :: Rs) H := by
  rw [odR_ot]
  exact M.vrC (M.ex' vs S.sp')
theorem star_daA {e : α → PyData} : ∀ {vs : List V} {xs : List α} {Rs : List Res}, M (starR (odR K) vs (OD.fzs e xs) :: Rs) H → M (daA K vs (xs.map e) :: Rs) H := fun {vs xs Rs} S => by
  have S1 : M (odRs K vs (OD.fzs e xs) :: Rs) H := by rw [odRs_star]; exact S
  have S2 := M.frzODs S1
  rwa [OD.fgtAll_map, OD.fgt_fzs] at S2
/-- such a list of data is a list of one's own -/
theorem M.odAc {v : V} {e : α → PyData} {x : OD} (S : M (odR K v x :: Rs) H) (h : x = .ol (OD.fzs e xs)) : ∃ p, v = .ref p ∧ M (acR K p (xs.map e) :: Rs) H := by
  obtain ⟨p, rfl, S1⟩ := S.odO h
  obtain ⟨vs, S2⟩ := S1.ex
  have S3 : M (daA K vs (xs.map e) :: pt p (.lst vs) :: Rs) H := star_daA (S2.sp.at 1 rfl)
  refine ⟨p, rfl, ?_⟩
  obtain ⟨F, L, ⟨l1, l2, rfl, ⟨rfl, q⟩, l3, l4, rfl, a, s⟩, m⟩ := S3
  exact ⟨F, _, ⟨l3, l4, by simp, ⟨vs, l3, [], by simp, a, rfl, q⟩, s⟩, m⟩
theorem M.dup {v : V} {d : PyData} (S : M (da K v d :: Rs) H) : M (da K v d :: da K v d :: Rs) H := by
  obtain ⟨F, L, ⟨l1, l2, e, ⟨rfl, h⟩, s⟩, m⟩ := S
  exact ⟨F, L, ⟨[], L, rfl, ⟨rfl, h⟩, [], l2, e, ⟨rfl, h⟩, s⟩, m⟩
/-- x[i], a part that is data: x stays -/
theorem v_ixODk {v : V} {x : OD} {d : PyData} {i : Int} {R0 : List Res} (S : M R0 H) (j : Nat) (hj : R0[j]? = some (odR K v x)) (h : x.at i = some (.fz d)) (k : ∀ u, M (da K u d :: odR K v x :: R0.eraseIdx j) H → Q u H) : uIx K v (.int i) H Q := by
  have S1 := S.at j hj
  have back : ∀ {vs : List V} {l : List OD} {n : Nat} {u : V} {Rs : List Res}, vs[n]? = some u → l[n]? = some (.fz d) → M (odR K u (.fz d) :: starR (odR K) (vs.eraseIdx n) (l.eraseIdx n) :: Rs) H → M (starR (odR K) vs l :: da K u d :: Rs) H := fun {vs l n u Rs} hu hl S => by
    have hlt : n < l.length := by
      cases Nat.lt_or_ge n l.length with
      | inl h => exact h
      | inr h => rw [List.getElem?_eq_none h] at hl; cases hl
    have S2 : M (da K u d :: da K u d :: starR (odR K) (vs.eraseIdx n) (l.eraseIdx n) :: Rs) H := M.dup S
    have S3 := starR_close (A := odR K) (u := u) (y := OD.fz d) (Rs := da K u d :: Rs) hu hlt (M.sub (.cons 0 rfl (.cons 1 rfl (.refl _))) S2)
    have e : l.set n (.fz d) = l := by
      refine List.ext_getElem? fun i => ?_
      rw [List.getElem?_set]
      by_cases z : n = i
      · subst z
        rw [if_pos rfl, hl, if_pos hlt]
      · rw [if_neg z]
    rwa [e] at S3
  cases x with
  | fz d0 =>
    cases e : anyAt d0 i with
    | none => rw [show OD.at (.fz d0) i = (anyAt d0 i).map .fz from rfl, e] at h; cases h
    | some z =>
      rw [show OD.at (.fz d0) i = (anyAt d0 i).map .fz from rfl, e] at h
      cases h
      exact v_ixa S1 0 rfl e k
  | ol l =>
    obtain ⟨n, h1, h2⟩ := atI_get (show atI l i = some (.fz d) from h)
    obtain ⟨p, rfl, S2⟩ := S1.odO rfl
    exact v_ixLs S2 0 rfl h1 h2 fun u vs hu S3 => k u (by
      have S4 := back hu h2 (M.sub (.cons 0 rfl (.cons 1 rfl (.refl _))) S3)
      have S5 : M (lsR (odR K) p l :: da K u d :: R0.eraseIdx j) H := M.ex' vs (M.sp' (M.sub (.cons 2 rfl (.cons 0 rfl (.refl _))) S4))
      exact M.sub (.cons 1 rfl (.refl _)) (M.odC S5))
  | ot l =>
    obtain ⟨n, h1, h2⟩ := atI_get (show atI l i = some (.fz d) from h)
    rw [odR_ot] at S1
    obtain ⟨p, rfl, S2⟩ := S1.vrO
    obtain ⟨vs, S3⟩ := S2.ex
    have S4 := S3.sp
    have hl := starR_len (S4.at 1 rfl)
    obtain ⟨u, hu, S5⟩ := starR_open (S4.at 1 rfl) h2
    have S6 := back hu h2 S5
    have S7 : M (pt p (.tup vs) :: starR (odR K) vs l :: da K u d :: R0.eraseIdx j) H := M.sub (.cons 2 rfl (.cons 0 rfl (.refl _))) S6
    have hp := S7.got 0 rfl
    exact v_ixT (.inl (.inl hp)) (atI_of (by rw [hl]; exact h1) hu) (k u (M.sub (.cons 1 rfl (.refl _)) (M.odTC S7)))
end
end RC

namespace RC
open PySem PySem.Spec PyProof.Rows L2
local macro_rules | `(tactic| walk_at "S") => `(tactic| assumption)
local macro_rules | `(tactic| walk_at "hp") => `(tactic| first
  | assumption
  | exact M.got (by assumption) 0 rfl | exact M.got (by assumption) 1 rfl | exact M.got (by assumption) 2 rfl | exact M.got (by assumption) 3 rfl | exact M.got (by assumption) 4 rfl
  | exact M.got (by assumption) 5 rfl | exact M.got (by assumption) 6 rfl | exact M.got (by assumption) 7 rfl | exact M.got (by assumption) 8 rfl
  | exact M.gotF (by assumption) 0 rfl | exact M.gotF (by assumption) 1 rfl | exact M.gotF (by assumption) 2 rfl | exact M.gotF (by assumption) 3 rfl | exact M.gotF (by assumption) 4 rfl
  | exact M.gotF (by assumption) 5 rfl | exact M.gotF (by assumption) 6 rfl | exact M.gotF (by assumption) 7 rfl | exact M.gotF (by assumption) 8 rfl)
local macro_rules | `(tactic| walk_at "sl") => `(tactic| first
  | assumption
  | exact SqL.of (by walk_at "hp")
  | exact M.gotR (by assumption) 0 rfl | exact M.gotR (by assumption) 1 rfl | exact M.gotR (by assumption) 2 rfl | exact M.gotR (by assumption) 3 rfl)
local macro_rules | `(tactic| walk_at "mul") => `(tactic| first
  | exact Or.inl (Or.inr ⟨by decide, by decide⟩) | exact Or.inl (Or.inl ⟨by decide, by decide⟩) | exact Or.inl (Or.inr ⟨by omega, by omega⟩) | exact Or.inl (Or.inl ⟨by omega, by omega⟩))
local macro_rules | `(tactic| walk_at "sq") => `(tactic| first | assumption | exact SqT.of (by walk_at "hp"))
local macro_rules | `(tactic| walk_at "sts") => `(tactic| first
  | with_reducible refine g_asg ?_
  | with_reducible refine g_asgX ?_
  | with_reducible refine g_drop ?_
  | with_reducible refine g_ret ?_
  | with_reducible refine g_retN ?_
  | with_reducible refine g_if ?_
  | with_reducible refine g_next ?_
  | with_reducible refine g_bk ?_
  | with_reducible refine g_ct ?_
  | with_reducible refine g_augS ?_
  | with_reducible refine g_for ?_
  | with_reducible refine g_while ?_
  | with_reducible refine g_par ?_
  | ((with_reducible refine' g_aug ?hh ?kk); (case hh => exact rfl)))
local macro_rules | `(tactic| walk_at "ev1") => `(tactic| first
  | with_reducible refine g_rt ?_
  | with_reducible refine g_lc ?_
  | with_reducible refine g_iList ?_
  | with_reducible refine g_iRng1 ?_
  | with_reducible refine g_iRev ?_
  | with_reducible refine g_yes ?_
  | ((with_reducible refine' g_wipe ?hh ?kk); (case hh => exact rfl))
  | with_reducible refine g_name ?_
  | ((with_reducible refine' g_var ?hh ?kk); (case hh => exact rfl))
  | with_reducible refine g_c ?_
  | with_reducible refine g_op ?_
  | with_reducible refine g_un ?_
  | with_reducible refine g_nil ?_
  | with_reducible refine g_cons ?_
  | with_reducible refine g_cb ?_
  | with_reducible refine g_call ?_
  | with_reducible refine g_lst ?_
  | with_reducible refine g_tup ?_
  | with_reducible refine g_test ?_
  | with_reducible refine g_B ?_
  | with_reducible refine g_bl ?_
  | with_reducible refine g_int ?_
  | with_reducible refine g_and ?_
  | with_reducible refine g_or ?_
  | with_reducible refine g_not ?_
  | with_reducible refine g_andV ?_
  | with_reducible refine g_orV ?_
  | with_reducible refine g_notV ?_
  | with_reducible refine g_ifE ?_
  | with_reducible refine g_chain ?_
  | with_reducible refine g_sub ?_
  | with_reducible refine g_sl ?_
  | with_reducible refine g_noPart ?_
  | with_reducible refine g_part ?_
  | with_reducible refine g_rev ?_
  | with_reducible refine g_bm ?_
  | with_reducible refine g_bm0 ?_
  | with_reducible refine v_add ?_
  | with_reducible refine v_sub ?_
  | with_reducible refine v_iadd ?_
  | with_reducible refine v_isub ?_
  | with_reducible refine v_lt ?_
  | with_reducible refine v_le ?_
  | with_reducible refine v_gt ?_
  | with_reducible refine v_ge ?_
  | with_reducible refine v_eqI ?_
  | with_reducible refine v_neI ?_
  | with_reducible refine v_eqS ?_
  | with_reducible refine v_eqB ?_
  | with_reducible refine v_neB ?_
  | ((with_reducible refine' v_mod ?hh ?kk); (case hh => first | decide | omega))
  | ((with_reducible refine' v_mul ?hh ?kk); (case hh => walk_at "mul"))
  | ((with_reducible refine' v_imul ?hh ?kk); (case hh => first | exact Or.inr ⟨by decide, by decide⟩ | exact Or.inl ⟨by decide, by decide⟩ | exact Or.inr ⟨by omega, by omega⟩ | exact Or.inl ⟨by omega, by omega⟩))
  | ((with_reducible refine' v_div ?hh ?kk); (case hh => first | decide | exact ⟨by omega, by omega⟩))
  | ((with_reducible refine' v_divB ?hh ?kk); (case hh => first | decide | exact ⟨by omega, by omega⟩))
  | ((with_reducible refine' v_idiv ?hh ?kk); (case hh => first | exact ⟨by decide, by decide⟩ | exact ⟨by omega, by omega⟩))
  | ((with_reducible refine' v_ixL ?hs ?hh ?kk); (case hs => walk_at "sl"); (case hh => exact rfl))
  | ((with_reducible refine' v_ixT ?hs ?hh ?kk); (case hs => walk_at "sq"); (case hh => exact rfl))
  | ((with_reducible refine' v_get ?hs ?h0 ?hh ?kk); (case hs => walk_at "sl"); (case h0 => decide); (case hh => exact rfl))
  | ((with_reducible refine' v_lenL ?hs ?kk); (case hs => walk_at "sl"))
  | ((with_reducible refine' v_pow ?hh ?kk); (case hh => decide +kernel))
  | with_reducible refine v_abs ?_
  | with_reducible refine v_neg ?_
  | with_reducible refine v_isN ?_
  | with_reducible refine v_notN ?_
  | with_reducible refine v_two ?_
  | with_reducible refine g_callN ?_
  | ((with_reducible refine' v_lens ?h1 ?h2 ?kk); (case h1 => exact rfl); (case h2 => exact rfl))
  | ((with_reducible refine' g_gtup ?h1 ?h2 ?kk); (case h1 => walk_at "sq"); (case h2 => exact rfl))
  | with_reducible refine g_gcons ?_
  | with_reducible refine g_gnil ?_
  | with_reducible refine v_ifNT ?_
  | with_reducible refine v_ifNF ?_
  | with_reducible refine v_ifT ?_
  | with_reducible refine v_ifF ?_)
local macro_rules | `(tactic| walk_at "ev") => `(tactic| repeat walk_at "ev1")
local macro_rules | `(tactic| walk_at "nx") => `(tactic| repeat with_reducible refine g_nx ?_)
local macro_rules | `(tactic| walk_at "st") => `(tactic| ((repeat first | with_reducible refine g_nx ?_ | with_reducible refine g_seq ?_); walk_at "sts"; walk_at "ev"))
local macro_rules | `(tactic| walk_at "go1") => `(tactic| first | with_reducible refine g_nx ?_ | with_reducible refine g_seq ?_ | walk_at "sts" | walk_at "ev1")
local macro_rules | `(tactic| walk_at "go") => `(tactic| repeat walk_at "go1")
local macro_rules | `(tactic| walk_at "sub1") => `(tactic| first
  | exact Sub.refl _ | exact Sub.nil _
  | refine Sub.cons 0 rfl ?_ | refine Sub.cons 1 rfl ?_ | refine Sub.cons 2 rfl ?_ | refine Sub.cons 3 rfl ?_ | refine Sub.cons 4 rfl ?_ | refine Sub.cons 5 rfl ?_ | refine Sub.cons 6 rfl ?_ | refine Sub.cons 7 rfl ?_
  | refine Sub.cons 8 rfl ?_ | refine Sub.cons 9 rfl ?_ | refine Sub.cons 10 rfl ?_ | refine Sub.cons 11 rfl ?_ | refine Sub.cons 12 rfl ?_ | refine Sub.cons 13 rfl ?_ | refine Sub.cons 14 rfl ?_ | refine Sub.cons 15 rfl ?_ | refine Sub.tl ?_)
local macro_rules | `(tactic| walk_at "sub") => `(tactic| (refine M.sub ?_ (by assumption); repeat walk_at "sub1"))
local macro_rules | `(tactic| walk_at "sts") => `(tactic| first
  | with_reducible refine g_sfld ?_
  | with_reducible refine g_rz ?_
  | with_reducible refine g_try ?_)
local macro_rules | `(tactic| walk_at "ev1") => `(tactic| first
  | with_reducible refine g_callW ?_
  | with_reducible refine g_meth ?_
  | with_reducible refine g_make ?_
  | with_reducible refine g_fld ?_
  | with_reducible refine g_dpop ?_
  | with_reducible refine g_callE ?_
  | with_reducible refine g_xg ?_)
abbrev bagO (x y z : Int) (cl : Addr) : HO := .lst [.int x, .int y, .int z, .ref cl]
structure BagOk (x y z : Int) (ns : List Int) : Prop where
  x0 : 0 ≤ x
  y0 : 0 ≤ y
  y1 : y < 2147483647
  z0 : 0 ≤ z
  nn : ∀ n ∈ ns, (0 : Int) ≤ n
def bagR (bag : Addr) : Res := exi fun (b : Int × Int × Int × Addr × List Int) => prp (BagOk b.1 b.2.1 b.2.2.1 b.2.2.2.2) (sp2 (pt bag (bagO b.1 b.2.1 b.2.2.1 b.2.2.2.1)) (pt b.2.2.2.1 (.lst (b.2.2.2.2.map V.int))))
theorem bag_open {bag : Addr} {Rs : List Res} {H : Hp} (S : M (bagR bag :: Rs) H) : ∃ x y z cl ns, BagOk x y z ns ∧ M (pt bag (bagO x y z cl) :: pt cl (.lst (ns.map V.int)) :: Rs) H := by
  obtain ⟨⟨x, y, z, cl, ns⟩, S⟩ := S.ex
  obtain ⟨ok, S⟩ := S.pr
  exact ⟨x, y, z, cl, ns, ok, S.sp⟩
theorem bag_close {bag cl : Addr} {x y z : Int} {ns : List Int} {Rs : List Res} {H : Hp} (ok : BagOk x y z ns) (S : M (pt bag (bagO x y z cl) :: pt cl (.lst (ns.map V.int)) :: Rs) H) : M (bagR bag :: Rs) H :=
  M.ex' (T := fun (b : Int × Int × Int × Addr × List Int) => prp (BagOk b.1 b.2.1 b.2.2.1 b.2.2.2.2) (sp2 (pt bag (bagO b.1 b.2.1 b.2.2.1 b.2.2.2.1)) (pt b.2.2.2.1 (.lst (b.2.2.2.2.map V.int))))) (x, y, z, cl, ns) (M.pr' ok S.sp')
def sp_l_take (K : PySem.W.Frag) : Sp := fun vs H Q _ => ∃ (Rs : List Res) (bag : Addr) (many : Int), vs = [.ref bag, .int many] ∧ M (bagR bag :: Rs) H ∧ 0 < many ∧ many < 2 ^ 120 ∧
  ∀ v H', 0 ≤ v → v < many → M (bagR bag :: Rs) H' → Q (.int v) H'
abbrev t_l_take_6 (K : PySem.W.Frag) : TS := (tSeq (tIfS (tTest (tOp uGe (tVar 4) (tC (.int 1000000000000000000)))) (tAsg (tVar 4) (gSub (tVar 0) (tC (.int 0)) uSet)) tNext)
  (tAsg (tOp uMod (tOp (uAdd K) (tOp (uAdd K) (tOp uMul (tOp (uIx K) (tVar 0) (tC (.int 1))) (tC (.int 48271))) (tOp uMod (tVar 4) (tC (.int 2147483647)))) (tOp uMul (tC (.int 7919)) (tOp (uIx K) (tVar 0) (tC (.int 2))))) (tC (.int 2147483647))) (gSub (tVar 0) (tC (.int 1)) uSet)))
abbrev t_l_take_5 (K : PySem.W.Frag) : TS := (tSeq (tAugS (tVar 0) (tC (.int 2)) (tC (.int 1)) (gIx K) iAdd uSet)
  (t_l_take_6 K))
abbrev t_l_take_3 (K : PySem.W.Frag) : TS := (tSeq (tIfS (tTest (tOp uLt (tOp (uIx K) (tVar 0) (tC (.int 2))) (tCB (uLen K) (tCons (tOp (uIx K) (tVar 0) (tC (.int 3))) tNil)))) (tAsg (tOp (uIx K) (tOp (uIx K) (tVar 0) (tC (.int 3))) (tOp (uIx K) (tVar 0) (tC (.int 2)))) (gName 4)) tNext)
  (t_l_take_5 K))
abbrev t_l_take_2 (K : PySem.W.Frag) : TS := (tSeq (tAsg (tC (.int 0)) (gName 4))
  (t_l_take_3 K))
abbrev t_l_take_11 (K : PySem.W.Frag) : TS := (tSeq (tAsg (tOp uDiv (tOp (uIx K) (tVar 0) (tC (.int 0))) (tVar 1)) (gSub (tVar 0) (tC (.int 0)) uSet))
  (tRet (tVar 5)))
abbrev t_l_take_10 (K : PySem.W.Frag) : TS := (tSeq (tAsg (tOp uMod (tOp (uIx K) (tVar 0) (tC (.int 0))) (tVar 1)) (gName 5))
  (t_l_take_11 K))
abbrev t_l_take_15 (K : PySem.W.Frag) : TS := (tSeq (tIfS (tTest (tOp uGt (tVar 1) (tC (.int 1000000)))) (tRet (tOp uMod (tOp (uAdd K) (tOp uMul (tVar 3) (tC (.int 1000000007))) (tVar 2)) (tVar 1))) tNext)
  (tRet (tOp uMod (tOp uDiv (tVar 3) (tC (.int 7))) (tVar 1))))
abbrev t_l_take_14 (K : PySem.W.Frag) : TS := (tSeq (tAsg (tOp uMod (tOp uMul (tOp uMod (tOp uMul (tVar 2) (tVar 2)) (tC (.int 998244353))) (tC (.int 30011))) (tC (.int 998244353))) (gName 3))
  (t_l_take_15 K))
abbrev t_l_take_13 (K : PySem.W.Frag) : TS := (tSeq (tAsg (tOp uMod (tOp uMul (tOp (uAdd K) (tOp (uIx K) (tVar 0) (tC (.int 1))) (tC (.int 1))) (tC (.int 39373))) (tC (.int 1000000007))) (gName 2))
  (t_l_take_14 K))
abbrev t_l_take_9 (K : PySem.W.Frag) : TS := (tSeq (tIfS (tTest (tOp uGt (tOp (uIx K) (tVar 0) (tC (.int 0))) (tC (.int 0)))) (t_l_take_10 K) tNext)
  (t_l_take_13 K))
abbrev t_l_take_1 (K : PySem.W.Frag) : TS := (tSeq (tIfS (tTest (tOp (uEq K) (tOp (uIx K) (tVar 0) (tC (.int 0))) (tC (.int 0)))) (t_l_take_2 K) tNext)
  (t_l_take_9 K))
abbrev t_l_take (K : PySem.W.Frag) : TS := (t_l_take_1 K)
theorem take_tail {K : PySem.W.Frag} {Q : VK} {Rs : List Res} {bag cl : Addr} {many x y z : Int} {ns : List Int} {c : Option V} {H : Hp} (m0 : 0 < many) (m1 : many < 2 ^ 120) (ok : BagOk x y z ns)
    (k : ∀ v H', 0 ≤ v → v < many → M (bagR bag :: Rs) H' → Q (.int v) H') (S : M (pt bag (bagO x y z cl) :: pt cl (.lst (ns.map V.int)) :: Rs) H) :
    t_l_take_9 K { nx := fun _ H' => Q .non H', rt := Q } [some (V.ref bag), some (V.int many), none, none, c, none] H := by
  have x0 := ok.x0
  have y0 := ok.y0
  have y1 := ok.y1
  walk_at "go"
  refine v_ifD (fun h => ?_) (fun h => ?_)
  · walk_at "go"
    refine v_set S 0 rfl rfl fun H' S' => ?_
    have S2 : M (pt bag (bagO (x / many) y z cl) :: pt cl (.lst (ns.map V.int)) :: Rs) H' := S'
    walk_at "go"
    exact k _ _ (Int.emod_nonneg _ (by omega)) (Int.emod_lt_of_pos _ m0) (bag_close ⟨Int.ediv_nonneg x0 (Int.le_of_lt m0), y0, y1, ok.z0, ok.nn⟩ S2)
  · walk_at "go"
    have f0 := Int.emod_nonneg ((y + 1) * 39373) (show (1000000007 : Int) ≠ 0 by decide)
    have f1 := Int.emod_lt_of_pos ((y + 1) * 39373) (show (0 : Int) < 1000000007 by decide)
    walk_at "go"
    have g0 := Int.emod_nonneg ((y + 1) * 39373 % 1000000007 * ((y + 1) * 39373 % 1000000007) % 998244353 * 30011) (show (998244353 : Int) ≠ 0 by decide)
    have g1 := Int.emod_lt_of_pos ((y + 1) * 39373 % 1000000007 * ((y + 1) * 39373 % 1000000007) % 998244353 * 30011) (show (0 : Int) < 998244353 by decide)
    refine v_ifD (fun h => ?_) (fun h => ?_)
    · walk_at "go"
      exact k _ _ (Int.emod_nonneg _ (by omega)) (Int.emod_lt_of_pos _ m0) (bag_close ok S)
    · walk_at "go"
      exact k _ _ (Int.emod_nonneg _ (by omega)) (Int.emod_lt_of_pos _ m0) (bag_close ok S)
theorem take_mid {K : PySem.W.Frag} {Q : VK} {Rs : List Res} {bag cl : Addr} {many y z c : Int} {ns : List Int} {H : Hp} (m0 : 0 < many) (m1 : many < 2 ^ 120) (ok : BagOk 0 y z ns) (c0 : 0 ≤ c)
    (k : ∀ v H', 0 ≤ v → v < many → M (bagR bag :: Rs) H' → Q (.int v) H') (S : M (pt bag (bagO 0 y z cl) :: pt cl (.lst (ns.map V.int)) :: Rs) H) :
    t_l_take_5 K { nx := t_l_take_9 K { nx := fun _ H' => Q .non H', rt := Q }, rt := Q } [some (V.ref bag), some (V.int many), none, none, some (.int c), none] H := by
  have y0 := ok.y0
  have y1 := ok.y1
  have z0 := ok.z0
  have fin : ∀ {x : Int} {H' : Hp}, 0 ≤ x → M (pt bag (bagO x y (z + 1) cl) :: pt cl (.lst (ns.map V.int)) :: Rs) H' →
      tAsg (tOp uMod (tOp (uAdd K) (tOp (uAdd K) (tOp uMul (tOp (uIx K) (tVar 0) (tC (.int 1))) (tC (.int 48271))) (tOp uMod (tVar 4) (tC (.int 2147483647)))) (tOp uMul (tC (.int 7919)) (tOp (uIx K) (tVar 0) (tC (.int 2))))) (tC (.int 2147483647))) (gSub (tVar 0) (tC (.int 1)) uSet)
        { nx := t_l_take_9 K { nx := fun _ H' => Q .non H', rt := Q }, rt := Q } [some (V.ref bag), some (V.int many), none, none, some (.int c), none] H' := by
    intro x H' x0 S
    walk_at "go"
    refine v_set S 0 rfl rfl fun H2 S' => ?_
    have S2 : M (pt bag (bagO x ((y * 48271 + c % 2147483647 + 7919 * (z + 1)) % 2147483647) (z + 1) cl) :: pt cl (.lst (ns.map V.int)) :: Rs) H2 := S'
    walk_at "nx"
    exact take_tail m0 m1 ⟨x0, Int.emod_nonneg _ (by decide), Int.emod_lt_of_pos _ (by decide), by omega, ok.nn⟩ k S2
  walk_at "go"
  refine v_set S 0 rfl rfl fun H' S' => ?_
  have S2 : M (pt bag (bagO 0 y (z + 1) cl) :: pt cl (.lst (ns.map V.int)) :: Rs) H' := S'
  walk_at "go"
  refine v_ifD (fun h => ?_) (fun h => ?_)
  · walk_at "go"
    refine v_set S2 0 rfl rfl fun H2 S' => ?_
    have S3 : M (pt bag (bagO c y (z + 1) cl) :: pt cl (.lst (ns.map V.int)) :: Rs) H2 := S'
    exact fin c0 S3
  · walk_at "st"
    exact fin (Int.le_refl 0) S2
theorem len_l_take {K : PySem.W.Frag} (vs : List V) (H : Hp) (Q : VK) (E : XK) (h : sp_l_take K vs H Q E) : vs.length = 2 := by
  obtain ⟨Rs, bag, many, rfl, _⟩ := h
  rfl
theorem pure_l_take {K : PySem.W.Frag} (vs : List V) (H : Hp) (Q : VK) (E : XK) (h : sp_l_take K vs H Q E) : t_l_take K { nx := fun _ H' => Q .non H', rt := Q } (start ["_law_bag_here", "_law_many", "_law_first", "_law_second", "_law_cell", "_law_value"] vs) H := by
  obtain ⟨Rs, bag, many, rfl, S, m0, m1, k⟩ := h
  obtain ⟨x, y, z, cl, ns, ok, S⟩ := bag_open S
  show t_l_take K _ [some (V.ref bag), some (V.int many), none, none, none, none] H
  walk_at "go"
  refine v_ifD (fun h => ?_) (fun h => ?_)
  · subst h
    walk_at "go"
    refine v_ifD (fun h => ?_) (fun h => ?_)
    · rw [List.length_map] at h
      walk_at "go"
      refine v_ixL (SqL.of (S.got 1 rfl)) (atI_ints ok.z0 h) ?_
      walk_at "nx"
      refine take_mid m0 m1 ok ?_ k S
      rw [List.getD_eq_getElem?_getD]
      cases e : ns[z.toNat]? with
      | none => exact Int.le_refl 0
      | some n => exact ok.nn n (List.mem_of_getElem? e)
    · walk_at "st"
      exact take_mid m0 m1 ok (Int.le_refl 0) k S
  · walk_at "st"
    exact take_tail m0 m1 ok k S
def sp_l_bag (K : PySem.W.Frag) : Sp := fun vs H Q _ => ∃ (Rs : List Res) (a : Addr) (ns : List Int), vs = [.ref a] ∧ M Rs H ∧ Ent Rs (fun H => SqL K H a (ns.map V.int)) ∧ ns.length ≤ 63 ∧ ∀ bag H', M (bagR bag :: Rs) H' → Q (.ref bag) H'
theorem len_l_bag {K : PySem.W.Frag} (vs : List V) (H : Hp) (Q : VK) (E : XK) (h : sp_l_bag K vs H Q E) : vs.length = 1 := by
  obtain ⟨Rs, a, ns, rfl, _⟩ := h
  rfl
abbrev t_l_bag (K : PySem.W.Frag) : TS := (tRet (tLst (tCons (tC (.int 0)) (tCons (tC (.int 1234567891)) (tCons (tC (.int 0)) (tCons (tLc (iList K (tSl (uSl K) (tVar 0) tNoPart (tPart (tC (.int 63))))) (gName 1) tYes (tCB rAbs (tCons (tVar 1) tNil)) [1]) tNil))))))
theorem pure_l_bag {K : PySem.W.Frag} (vs : List V) (H : Hp) (Q : VK) (E : XK) (h : sp_l_bag K vs H Q E) : t_l_bag K { nx := fun _ H' => Q .non H', rt := Q } (start ["_law_script", "_law_cell"] vs) H := by
  obtain ⟨Rs, a, ns, rfl, S, hS, hl, k⟩ := h
  show t_l_bag K _ [some (V.ref a), none] H
  walk_at "go"
  refine v_slL S (hS H S) fun q H1 S1 => ?_
  rw [show cutV (ns.map V.int) none (some 63) = (ns.map V.int).take 63 from cut_to _ 63, ← List.map_take] at S1
  refine v_itL (SqL.of (S1.got 0 rfl)) ?_
  refine lc_W walk_list S1 (fun i acc => ∃ ms : List Int, acc = ms.map V.int ∧ ms.length ≤ i ∧ ∀ n ∈ ms, 0 ≤ n) ⟨[], rfl, Nat.le_refl _, (fun _ h => nomatch h)⟩ (fun H S => SqL.of (S.got 0 rfl)) ?_ ?_
  · intro i x acc E H H' hi hp S y
    obtain ⟨rfl, hx⟩ := y
    obtain ⟨n, _, rfl⟩ := ints_get hx
    obtain ⟨ms, rfl, hm, hn⟩ := hp
    walk_at "go"
    have hz : i < 63 := by
      rw [List.length_map, List.length_take] at hi
      omega
    refine lc_next S 0 rfl (by rw [List.length_map]; omega) fun H' S' => ?_
    refine ⟨_, ⟨ms ++ [if n < 0 then -n else n], by simp, by simp; omega, fun m h => ?_⟩, S'⟩
    rcases List.mem_append.mp h with h | h
    · exact hn m h
    · cases List.mem_singleton.mp h
      split <;> omega
  · rintro E acc H ⟨ms, rfl, _, hn⟩ S
    walk_at "go"
    refine v_lst S (by simp) fun p H' S' => ?_
    walk_at "go"
    have S2 : M (pt p (bagO 0 1234567891 0 E) :: pt E (.lst (ms.map V.int)) :: Rs) H' := (S'.at 2 rfl).tl
    exact k p H' (bag_close ⟨by decide, by decide, by decide, by decide, hn⟩ S2)
/-- a draw -/
theorem u_take {K : PySem.W.Frag} {Rs : List Res} {H : Hp} {bag : Addr} {many : Int} {Q : VK} {E : XK} (S : M (bagR bag :: Rs) H) (h : 0 < many ∧ many < 2 ^ 62) (k : ∀ v H', 0 ≤ v → v < many → M (bagR bag :: Rs) H' → Q (.int v) H') :
    sp_l_take K ([.ref bag, .int many] ++ []) H Q E := ⟨Rs, bag, many, rfl, S, h.1, by omega, k⟩
theorem u_takeB {K : PySem.W.Frag} {Rs : List Res} {H : Hp} {bag : Addr} {many : Int} {Q : VK} {E : XK} (S : M (bagR bag :: Rs) H) (h : 0 < many ∧ many < 2 ^ 120) (k : ∀ v H', 0 ≤ v → v < many → M (bagR bag :: Rs) H' → Q (.int v) H') :
    sp_l_take K ([.ref bag, .int many] ++ []) H Q E := ⟨Rs, bag, many, rfl, S, h.1, h.2, k⟩
def sp_l_alike (K : PySem.W.Frag) : Sp := fun vs H Q _ => ∃ (x y : V) (d : PyData), vs = [x, y] ∧ Dn K H x d ∧ Dn K H y d ∧ AlkOk d ∧ Q (.bl true) H
theorem len_l_alike {K : PySem.W.Frag} (vs : List V) (H : Hp) (Q : VK) (E : XK) (h : sp_l_alike K vs H Q E) : vs.length = 2 := by
  obtain ⟨x, y, d, rfl, _⟩ := h
  rfl
abbrev t_l_alike (K : PySem.W.Frag) : TS := (tRet (tAndV (tOp (uEqQ K) (tVar 0) (tVar 1)) (tOp (uEqQ K) (tCB (rReprQ K) (tCons (tVar 0) tNil)) (tCB (rReprQ K) (tCons (tVar 1) tNil)))))
theorem pure_l_alike {K : PySem.W.Frag} (vs : List V) (H : Hp) (Q : VK) (E : XK) (h : sp_l_alike K vs H Q E) : t_l_alike K { nx := fun _ H' => Q .non H', rt := Q } (L2.start ["_law_found", "_law_due"] vs) H := by
  obtain ⟨x, y, d, rfl, h1, h2, ok, k⟩ := h
  show t_l_alike K _ [some x, some y] H
  refine g_ret (g_andV (g_op (g_var rfl (g_var rfl (.inr ⟨d, h1, h2, ok.ok, ok.dp, g_bl (v_ifT ?_)⟩)))))
  refine g_op (g_cb (g_cons (g_var rfl (g_nil ⟨x, d, rfl, h1, ok.sh, ok.dp, ok.ln, ?_⟩))))
  refine g_cb (g_cons (g_var rfl (g_nil ⟨y, d, rfl, h2, ok.sh, ok.dp, ok.ln, ?_⟩)))
  refine .inl (v_eqS ?_)
  rw [decide_eq_true rfl]
  exact k
structure TxC (K : PySem.W.Frag) : Prop where
  xc_Wrong : ExcC K (He.ga K "Wrong")
  xn_Wrong_at : chN K "Wrong" "at" = true
inductive Ex where
  | Wrong (w : PyData)
def Ex.cls : Ex → Str
  | .Wrong _ => "Wrong"
def Ex.fld : Ex → Str
  | .Wrong _ => "at"
def Ex.val : Ex → PyData
  | .Wrong w => w
def p_is_whole (a_thing : Int) (P : Bool → Prop) : Prop := P (true && (!false))
def sp_is_whole (K : PySem.W.Frag) : Sp := fun vs H Q _ => ∃ (Rs : List Res) (a_thing : Int) (P : Bool → Prop), vs = [(V.int a_thing)] ∧ M (Rs) H ∧ p_is_whole a_thing P ∧ ∀ (r : Bool) H', P r → M (Rs) H' → Q (V.bl r) H'
theorem len_is_whole {K : PySem.W.Frag} (vs : List V) (H : Hp) (Q : VK) (E : XK) (h : sp_is_whole K vs H Q E) : vs.length = 1 := by
  obtain ⟨Rs, a_thing, P, rfl, _⟩ := h
  rfl
abbrev t_is_whole (K : PySem.W.Frag) : TS := (tRet (tAndV (tCB (uIsi K) (tCons (tVar 0) (tCons (tC (.ty "int")) tNil))) (tNotV (tCB (uIsi K) (tCons (tVar 0) (tCons (tC (.ty "bool")) tNil))))))
theorem pure_is_whole {K : PySem.W.Frag} (vs : List V) (H : Hp) (Q : VK) (E : XK) (h : sp_is_whole K vs H Q E) : t_is_whole K { nx := fun _ H' => Q .non H', rt := Q } (L2.start ["thing"] vs) H := by
  obtain ⟨Rs, a_thing, P, rfl, S0, hf, hk⟩ := h
  show t_is_whole K _ [some (V.int a_thing)] H
  refine g_ret (g_andVP (c1 := true) (c2 := (!false)) (fun _ hq => ?_) (fun _ hq => ?_) ?_)
  ·
    refine g_cb (g_cons (g_var rfl (g_cons (g_c (g_nil (v_isq (.int _) (by decide) (b := true) rfl ?_))))))
    exact hq
  ·
    refine g_notV (g_cb (g_cons (g_var rfl (g_cons (g_c (g_nil (v_isq (.int _) (by decide) (b := false) rfl (g_bl ?_))))))))
    exact hq
  exact hk _ _ hf (M.sub (.refl _) S0)
def p_is_name (a_thing : Str) (P : Bool → Prop) : Prop := jn (fun k5 => jn (fun k11 => ((a_thing).length ≤ 100000) ∧ if (decide (1 ≤ ((a_thing).length : Int))) = true then (k11 (decide (((a_thing).length : Int) ≤ 8))) else (k11 false)) fun c7 => k5 (!c7)) fun c1 => if c1 = true then (P false) else (forD (fun (x21 : Str) (s18 : Unit) (k19 : (Unit) → Prop) => ∃ c25, inSt x21 ("abcdefghijklmnopqrstuvwxyz" : Str) = some c25 ∧ if (!c25) = true then (P false) else (k19 ())) (strL a_thing) () fun s18 => P true)
def sp_is_name (K : PySem.W.Frag) : Sp := fun vs H Q _ => ∃ (Rs : List Res) (a_thing : Str) (P : Bool → Prop), vs = [(V.str a_thing)] ∧ M (Rs) H ∧ p_is_name a_thing P ∧ ∀ (r : Bool) H', P r → M (Rs) H' → Q (V.bl r) H'
theorem len_is_name {K : PySem.W.Frag} (vs : List V) (H : Hp) (Q : VK) (E : XK) (h : sp_is_name K vs H Q E) : vs.length = 1 := by
  obtain ⟨Rs, a_thing, P, rfl, _⟩ := h
  rfl
abbrev t_is_name_4 (K : PySem.W.Frag) : TS := (tIfS (tTest (tOp (uNotIn K) (tVar 1) (tC (.str "abcdefghijklmnopqrstuvwxyz")))) (tRet (tC (.bl false))) tNext)
abbrev t_is_name_3 (K : PySem.W.Frag) : TS := (tSeq (tFor (iStr (tVar 0)) (gName 1) (t_is_name_4 K))
  (tRet (tC (.bl true))))
abbrev t_is_name_1 (K : PySem.W.Frag) : TS := (tSeq (tIfS (tOr (tNot (tB (tCB (uIsi K) (tCons (tVar 0) (tCons (tC (.ty "str")) tNil))))) (tNot (tTest (tChain uLe uLe (tC (.int 1)) (tCB (uLen K) (tCons (tVar 0) tNil)) (tC (.int 8)))))) (tRet (tC (.bl false))) tNext)
  (t_is_name_3 K))
abbrev t_is_name (K : PySem.W.Frag) : TS := (t_is_name_1 K)
theorem pure_is_name {K : PySem.W.Frag} (vs : List V) (H : Hp) (Q : VK) (E : XK) (h : sp_is_name K vs H Q E) : t_is_name K { nx := fun _ H' => Q .non H', rt := Q } (L2.start ["thing", "letter"] vs) H := by
  obtain ⟨Rs, a_thing, P, rfl, S0, hf, hk⟩ := h
  show t_is_name K _ [some (V.str a_thing), none] H
  refine g_seq (g_if ?_)
  refine tt_cut hf (fun H => M (Rs) H) (fun kk2 P3 hP4 hf => ?_) ?_
  ·
    refine g_or (g_not (g_B (g_cb (g_cons (g_var rfl (g_cons (g_c (g_nil (v_isq (.str _) (by decide) (b := true) rfl (g_bl (v_ifcF (by decide) (g_not (g_test ?_)))))))))))))
    refine te_cut hf (fun H => M (Rs) H) (fun kk8 P9 hP10 hf => ?_) ?_
    ·
      obtain ⟨h13, hf⟩ := hf
      refine g_chain (g_c (g_cb (g_cons (g_var rfl (g_nil (v_lenS h13 (v_le (g_bl (v_iff hf (fun _ hf => ?_) (fun _ hf => ?_))))))))))
      ·
        refine g_c (v_le ?_)
        exact hP10 _ _ hf (M.sub (.refl _) S0)
      ·
        exact hP10 _ _ hf (M.sub (.refl _) S0)
    intro c7 H15 hf S14
    refine g_bl ?_
    exact hP4 _ _ hf (M.sub (.refl _) S14)
  intro c1 H17 hf S16
  refine v_iff hf (fun _ hf => ?_) (fun _ hf => ?_)
  ·
    refine g_ret (g_c ?_)
    exact hk _ _ hf (M.sub (.refl _) S16)
  ·
    refine g_next (g_nx (g_seq (g_for (g_iStr (g_var rfl (⟨_, rfl, ?_⟩))))))
    refine for_str (β := Unit) hf (fun (s18 : Unit) σ H' => ∃ (o22 : Option V), σ = [some (V.str a_thing), o22] ∧ M (Rs) H') ⟨_, rfl, (M.sub (.refl _) S16)⟩ ?_ ?_
    ·
      rintro x21 s18 _ H24 kk20 ⟨o22, rfl, S23⟩ hf
      obtain ⟨c25, h26, hf⟩ := hf
      refine g_name (g_if (g_test (g_op (g_var rfl (g_c (v_ninSt h26 (g_bl (v_iff hf (fun _ hf => ?_) (fun _ hf => ?_)))))))))
      ·
        refine g_ret (g_c ?_)
        exact hk _ _ hf (M.sub (.refl _) S23)
      ·
        refine g_next ?_
        exact ⟨_, hf, _, rfl, (M.sub (.refl _) S23)⟩
    rintro s18 _ H28 hf ⟨o22, rfl, S27⟩
    refine g_nx ?_
    refine g_ret (g_c ?_)
    exact hk _ _ hf (M.sub (.refl _) S27)
def p_are_wholes (a_thing : (List Int)) (P : Bool → Prop) : Prop := jn (fun k5 => jn (fun k11 => if (decide (((a_thing).length : Int) ≤ 60)) = true then ((a_thing).length ≤ 100000 ∧ lcD (fun (x16 : Int) (k23 : Option Bool → Prop) => p_is_whole x16 fun x24 => k23 (some x24)) a_thing [] fun acc13 => k11 ((acc13).all id)) else (k11 false)) fun c7 => k5 c7) fun c1 => P c1
def sp_are_wholes (K : PySem.W.Frag) : Sp := fun vs H Q _ => ∃ (Rs : List Res) (v_a_thing : V) (a_thing : (List Int)) (P : Bool → Prop), vs = [v_a_thing] ∧ M (da K v_a_thing ((eL eI) a_thing) :: Rs) H ∧ p_are_wholes a_thing P ∧ ∀ (r : Bool) H', P r → M (Rs) H' → Q (V.bl r) H'
theorem len_are_wholes {K : PySem.W.Frag} (vs : List V) (H : Hp) (Q : VK) (E : XK) (h : sp_are_wholes K vs H Q E) : vs.length = 1 := by
  obtain ⟨Rs, v_a_thing, a_thing, P, rfl, _⟩ := h
  rfl
abbrev t_are_wholes (K : PySem.W.Frag) : TS := (tRet (tAndV (tCB (uIsi K) (tCons (tVar 0) (tCons (tC (.ty "list")) tNil))) (tAndV (tOp uLe (tCB (uLen K) (tCons (tVar 0) tNil)) (tC (.int 60))) (tCB (rAll K) (tCons (tLc (iList K (tVar 0)) (gName 1) tYes (tCall (sp_is_whole K) [] E0 (tCons (tVar 1) tNil)) [1]) tNil)))))
theorem pure_are_wholes {K : PySem.W.Frag} (vs : List V) (H : Hp) (Q : VK) (E : XK) (h : sp_are_wholes K vs H Q E) : t_are_wholes K { nx := fun _ H' => Q .non H', rt := Q } (L2.start ["thing", "one"] vs) H := by
  obtain ⟨Rs, v_a_thing, a_thing, P, rfl, S0, hf, hk⟩ := h
  show t_are_wholes K _ [some v_a_thing, none] H
  refine g_ret ?_
  refine te_cut hf (fun H => M (da K v_a_thing ((eL eI) a_thing) :: Rs) H) (fun kk2 P3 hP4 hf => ?_) ?_
  ·
    refine g_andV (g_cb (g_cons (g_var rfl (g_cons (g_c (g_nil (v_isq (Dq.dn (M.gotA S0 0 rfl)) (by decide) (b := true) rfl (g_bl (v_ifT ?_)))))))))
    refine te_cut hf (fun H => M (da K v_a_thing ((eL eI) a_thing) :: Rs) H) (fun kk8 P9 hP10 hf => ?_) ?_
    ·
      refine g_andV (g_op (g_cb (g_cons (g_var rfl (g_nil (v_lenN (M.gotA S0 0 rfl) (g_c (v_le (g_bl (v_iff hf (fun _ hf => ?_) (fun _ hf => ?_)))))))))))
      ·
        refine g_cb (g_cons (g_lc (g_iList (g_var rfl ?_))))
        refine lc_N flI (K := K) (e' := eB) hf S0 (fun _ S => S.gotA 0 rfl) (fun x16 acc13 E14 H22 kk15 N17 hl18 S21 hf hp19 hn20 => ?_) (fun E14 acc13 H31 hf S30 => ?_)
        ·
          refine g_name (g_wipe rfl (g_yes (v_ifT (g_call (g_cons (g_var rfl (g_nil (⟨_, _, _, rfl, S21, hf, fun x24 H26 hf (S25 : M (acR K E14 (acc13.map eB) :: da K v_a_thing ((eL eI) a_thing) :: Rs) H26) => ?_⟩))))))))
          refine acR_put S25 0 rfl (EnF.all fun _ => .bl _) hl18 fun H29 (S28 : M (acR K E14 (acc13.map eB ++ [eB x24]) :: da K v_a_thing ((eL eI) a_thing) :: Rs) H29) => ?_
          exact hp19 _ _ hf (M.sub (.cons 0 rfl (.cons 0 rfl (.refl _))) S28)
        have S33 : M (da K (V.ref E14) ((eL eB) acc13) :: da K v_a_thing ((eL eI) a_thing) :: Rs) H31 := acR_fixL S30
        refine g_nil (v_all (M.gotA S33 0 rfl) ?_)
        exact hP10 _ _ hf (M.sub (.cons 1 rfl (.tl (.refl _))) S33)
      ·
        exact hP10 _ _ hf (M.sub (.cons 0 rfl (.refl _)) S0)
    intro c7 H36 hf S35
    exact hP4 _ _ hf (M.sub (.cons 0 rfl (.refl _)) S35)
  intro c1 H38 hf S37
  exact hk _ _ hf (M.sub (.tl (.refl _)) S37)
def p_are_lists_by_name (a_thing : (List (Str × (List Int)))) (P : Bool → Prop) : Prop := if ((!true) || (decide (60 < ((a_thing).length : Int)))) = true then (P false) else ((ks a_thing).length ≤ 100000 ∧ lcD (fun (x4 : Str) (k11 : Option Bool → Prop) => jn (fun k19 => p_is_name x4 fun x21 => if x21 = true then (∃ x25, lk a_thing x4 = some x25 ∧ p_are_wholes x25 fun x31 => k19 x31) else (k19 false)) fun c15 => k11 (some c15)) (ks a_thing) [] fun acc1 => P ((acc1).all id))
def sp_are_lists_by_name (K : PySem.W.Frag) : Sp := fun vs H Q _ => ∃ (Rs : List Res) (v_a_thing : V) (a_thing : (List (Str × (List Int)))) (P : Bool → Prop), vs = [v_a_thing] ∧ M (da K v_a_thing ((eD iS (eL eI)) a_thing) :: Rs) H ∧ p_are_lists_by_name a_thing P ∧ ∀ (r : Bool) H', P r → M (Rs) H' → Q (V.bl r) H'
theorem len_are_lists_by_name {K : PySem.W.Frag} (vs : List V) (H : Hp) (Q : VK) (E : XK) (h : sp_are_lists_by_name K vs H Q E) : vs.length = 1 := by
  obtain ⟨Rs, v_a_thing, a_thing, P, rfl, _⟩ := h
  rfl
abbrev t_are_lists_by_name_1 (K : PySem.W.Frag) : TS := (tSeq (tIfS (tOr (tNot (tB (tCB (uIsi K) (tCons (tVar 0) (tCons (tC (.ty "dict")) tNil))))) (tTest (tOp uGt (tCB (uLen K) (tCons (tVar 0) tNil)) (tC (.int 60))))) (tRet (tC (.bl false))) tNext)
  (tRet (tCB (rAll K) (tCons (tLkE (tLc (iKeys (tVar 0)) (gName 1) tYes (tAndV (tCall (sp_is_name K) [] E0 (tCons (tVar 1) tNil)) (tCall (sp_are_wholes K) [] E0 (tCons (tOp rIxK (tVar 0) (tVar 1)) tNil))) [1])) tNil))))
abbrev t_are_lists_by_name (K : PySem.W.Frag) : TS := (t_are_lists_by_name_1 K)
theorem pure_are_lists_by_name {K : PySem.W.Frag} (vs : List V) (H : Hp) (Q : VK) (E : XK) (h : sp_are_lists_by_name K vs H Q E) : t_are_lists_by_name K { nx := fun _ H' => Q .non H', rt := Q } (L2.start ["thing", "name"] vs) H := by
  obtain ⟨Rs, v_a_thing, a_thing, P, rfl, S0, hf, hk⟩ := h
  show t_are_lists_by_name K _ [some v_a_thing, none] H
  refine g_seq (g_if (g_orP (c1 := (!true)) (c2 := (decide (60 < ((a_thing).length : Int)))) (fun _ hq => ?_) (fun _ hq => ?_) ?_))
  ·
    refine g_not (g_B (g_cb (g_cons (g_var rfl (g_cons (g_c (g_nil (v_isq (Dq.dn (M.gotA S0 0 rfl)) (by decide) (b := true) rfl (g_bl ?_)))))))))
    exact hq
  ·
    refine g_test (g_op (g_cb (g_cons (g_var rfl (g_nil (DVs.len (M.dvA S0 0 rfl) (g_c (v_gt (g_bl ?_)))))))))
    exact hq
  refine v_iff hf (fun _ hf => ?_) (fun _ hf => ?_)
  ·
    refine g_ret (g_c ?_)
    exact hk _ _ hf (M.sub (.tl (.refl _)) S0)
  ·
    refine g_next (g_nx (g_ret (g_cb (g_cons ?_))))
    have S13 : M (bdR K iS (eL eI) v_a_thing a_thing DF.dat :: da K v_a_thing ((eD iS (eL eI)) a_thing) :: Rs) H := M.addA S0 (EnF.at 0 rfl)
    refine lc_kys (K := K) (sv := V.str) (e' := eB) (fun _ => rfl) hf S13 0 rfl (fun _ _ _ S q => g_var rfl q) (fun f12 x4 acc1 E2 H10 kk3 N5 hl6 S9 hf hp7 hn8 => ?_) (fun E2 acc1 H40 hf (S39 : M (acR K E2 (acc1.map eB) :: bdR K iS (eL eI) v_a_thing a_thing DF.dat :: da K v_a_thing ((eD iS (eL eI)) a_thing) :: Rs) H40) => ?_)
    ·
      refine g_name (g_wipe rfl (g_yes (v_ifT ?_)))
      refine te_cut hf (fun H => M (acR K E2 (acc1.map eB) :: bdR K iS (eL eI) v_a_thing a_thing f12 :: da K v_a_thing ((eD iS (eL eI)) a_thing) :: Rs) H) (fun kk16 P17 hP18 hf => ?_) ?_
      ·
        refine g_andV (g_call (g_cons (g_var rfl (g_nil (⟨_, _, _, rfl, S9, hf, fun x21 H23 hf (S22 : M (acR K E2 (acc1.map eB) :: bdR K iS (eL eI) v_a_thing a_thing f12 :: da K v_a_thing ((eD iS (eL eI)) a_thing) :: Rs) H23) => ?_⟩)))))
        refine g_bl (v_iff hf (fun _ hf => ?_) (fun _ hf => ?_))
        ·
          refine g_call (g_cons (g_op (g_var rfl (g_var rfl ?_))))
          obtain ⟨x25, h26, hf⟩ := hf
          refine d_ixS (M.dvB S22 1 rfl) h26 fun u27 S28 => ?_
          refine g_nil (⟨_, _, _, _, rfl, (M.addA S28 (EnF.at 0 rfl)), hf, fun x31 H33 hf (S32 : M (da K u27 ((eL eI) x25) :: acR K E2 (acc1.map eB) :: bdR K iS (eL eI) v_a_thing a_thing f12 :: da K v_a_thing ((eD iS (eL eI)) a_thing) :: Rs) H33) => ?_⟩)
          exact hP18 _ _ hf (M.sub (.cons 1 rfl (.cons 1 rfl (.cons 1 rfl (.tl (.refl _))))) S32)
        ·
          exact hP18 _ _ hf (M.sub (.cons 0 rfl (.cons 0 rfl (.cons 0 rfl (.refl _)))) S22)
      intro c15 H36 hf S35
      refine acR_put S35 0 rfl (EnF.all fun _ => .bl _) hl6 fun H38 (S37 : M (acR K E2 (acc1.map eB ++ [eB c15]) :: bdR K iS (eL eI) v_a_thing a_thing f12 :: da K v_a_thing ((eD iS (eL eI)) a_thing) :: Rs) H38) => ?_
      exact hp7 _ _ hf (M.sub (.cons 0 rfl (.cons 0 rfl (.cons 0 rfl (.refl _)))) S37)
    have S42 : M (da K (V.ref E2) ((eL eB) acc1) :: bdR K iS (eL eI) v_a_thing a_thing DF.dat :: da K v_a_thing ((eD iS (eL eI)) a_thing) :: Rs) H40 := acR_fixL S39
    refine g_nil (v_all (M.gotA S42 0 rfl) ?_)
    exact hk _ _ hf (M.sub (.tl (.tl (.tl (.refl _)))) S42)
def p_expect (a_at : PyData) (a_fits : Bool) (X : Ex → Prop) (P : Unit → Prop) : Prop := if (!a_fits) = true then (X (Ex.Wrong a_at)) else (P ())
def sp_expect (K : PySem.W.Frag) : Sp := fun vs H Q E => ∃ (Rs : List Res) (v_a_at : V) (a_at : PyData) (a_fits : Bool) (X : Ex → Prop) (P : Unit → Prop), vs = [v_a_at, (V.bl a_fits)] ∧ M (da K v_a_at (eA a_at) :: Rs) H ∧ p_expect a_at a_fits X P ∧ (∀ (x : Ex) (d : Addr) (v : V) H', X x → M (pt d (.xd [(x.fld, v)]) :: da K v x.val :: Rs) H' → E (.ref (He.ga K x.cls)) (some d) H') ∧ ∀ (m0 : Unit) H', P m0 → M (Rs) H' → Q .non H'
theorem len_expect {K : PySem.W.Frag} (vs : List V) (H : Hp) (Q : VK) (E : XK) (h : sp_expect K vs H Q E) : vs.length = 2 := by
  obtain ⟨Rs, v_a_at, a_at, a_fits, X, P, rfl, _⟩ := h
  rfl
abbrev t_expect_1 (K : PySem.W.Frag) (W : WX) : TS := (tIfS (tNot (tB (tVar 1))) (tRz W (He.ga K "Wrong") "at" (tVar 0)) tNext)
abbrev t_expect (K : PySem.W.Frag) (W : WX) : TS := (t_expect_1 K W)
theorem pure_expect {K : PySem.W.Frag} (T : TxC K) (vs : List V) (H : Hp) (Q : VK) (E : XK) (h : sp_expect K vs H Q E) : t_expect K (WT E) { nx := fun _ H' => Q .non H', rt := Q } (L2.start ["at", "fits"] vs) H := by
  obtain ⟨Rs, v_a_at, a_at, a_fits, X, P, rfl, S0, hf, hX, hk⟩ := h
  show t_expect K (WT E) _ [some v_a_at, some (V.bl a_fits)] H
  refine g_if (g_not (g_B (g_var rfl (g_bl (v_iff hf (fun _ hf => ?_) (fun _ hf => ?_))))))
  ·
    refine g_rz (g_var rfl (v_rz S0 fun d1 H3 (S2 : M (pt d1 (.xd [("at", v_a_at)]) :: da K v_a_at (eA a_at) :: Rs) H3) => ?_))
    exact hX (Ex.Wrong a_at) d1 v_a_at _ hf (M.sub (.cons 0 rfl (.cons 0 rfl (.refl _))) S2)
  ·
    refine g_next ?_
    exact hk _ _ hf (M.sub (.tl (.refl _)) S0)
def p_changes (a_elder : (List (Str × (List Int)))) (a_newer : (List (Str × (List Int)))) (X : Ex → Prop) (P : (List OD) → Prop) : Prop := p_are_lists_by_name a_elder fun x2 => p_expect (eI 0) x2 (fun x13 => X x13) fun _u9 => p_are_lists_by_name a_newer fun x22 => p_expect (eI 1) x22 (fun x33 => X x33) fun _u29 => (a_elder).length < 128 ∧ (a_newer).length < 128 ∧ (((ks a_elder)).length + ((ks a_newer)).length < 128) ∧ forD (fun (x77 : Str) (s74 : (List OD)) (k75 : ((List OD)) → Prop) => if (!(lk a_newer x77).isSome) = true then ((s74).length < 100000 ∧ k75 (sno s74 (OD.fz ((eP eS eS) (("gone" : Str), x77))))) else (jn (fun k97 => if (!(lk a_elder x77).isSome) = true then (k97 true) else (∃ x99, lk a_elder x77 = some x99 ∧ ∃ x104, lk a_newer x77 = some x104 ∧ k97 (!decide (x99 = x104)))) fun c93 => if c93 = true then (∃ x111, lk a_newer x77 = some x111 ∧ (s74).length < 100000 ∧ k75 (sno s74 (OD.ot [(OD.fz (eS ("put" : Str))), (OD.fz (eS x77)), (OD.ol (OD.fzs eI x111))]))) else (k75 s74))) (srtS' (dd ((ks a_elder) ++ (ks a_newer)))) ([] : (List OD)) fun s74 => P s74
def sp_changes (K : PySem.W.Frag) : Sp := fun vs H Q E => ∃ (Rs : List Res) (v_a_elder : V) (a_elder : (List (Str × (List Int)))) (v_a_newer : V) (a_newer : (List (Str × (List Int)))) (X : Ex → Prop) (P : (List OD) → Prop), vs = [v_a_elder, v_a_newer] ∧ M (da K v_a_elder ((eD iS (eL eI)) a_elder) :: da K v_a_newer ((eD iS (eL eI)) a_newer) :: Rs) H ∧ p_changes a_elder a_newer X P ∧ (∀ (x : Ex) (d : Addr) (v : V) H', X x → M (pt d (.xd [(x.fld, v)]) :: da K v x.val :: Rs) H' → E (.ref (He.ga K x.cls)) (some d) H') ∧ ∀ (r : (List OD)) (p : Addr) H', P r → M (lsR (odR K) p r :: Rs) H' → Q (.ref p) H'
theorem len_changes {K : PySem.W.Frag} (vs : List V) (H : Hp) (Q : VK) (E : XK) (h : sp_changes K vs H Q E) : vs.length = 2 := by
  obtain ⟨Rs, v_a_elder, a_elder, v_a_newer, a_newer, X, P, rfl, _⟩ := h
  rfl
abbrev t_changes_7 (K : PySem.W.Frag) (W : WX) : TS := (tIfS (tOr (tTest (tOp (uNotIn K) (tVar 3) (tVar 0))) (tTest (tOp (uNe K) (tOp rIxK (tVar 0) (tVar 3)) (tOp rIxK (tVar 1) (tVar 3))))) (tDrop (tBM K "list" rAppend (tVar 2) (tCons (tTup (tCons (tC (.str "put")) (tCons (tVar 3) (tCons (tCB (rListOf K) (tCons (tOp rIxK (tVar 1) (tVar 3)) tNil)) tNil)))) tNil))) tNext)
abbrev t_changes_5 (K : PySem.W.Frag) (W : WX) : TS := (tIfS (tTest (tOp (uNotIn K) (tVar 3) (tVar 1))) (tDrop (tBM K "list" rAppend (tVar 2) (tCons (tTup (tCons (tC (.str "gone")) (tCons (tVar 3) tNil))) tNil))) (t_changes_7 K W))
abbrev t_changes_4 (K : PySem.W.Frag) (W : WX) : TS := (tSeq (tFor (iList K (tW fun w => tCB (rSortMS w) (tCons (tOp (rOrS w) (tCB (rSetD w) (tCons (tVar 0) tNil)) (tCB (rSetD w) (tCons (tVar 1) tNil))) tNil))) (gName 3) (t_changes_5 K W))
  (tRet (tVar 2)))
abbrev t_changes_3 (K : PySem.W.Frag) (W : WX) : TS := (tSeq (tAsg (tLst tNil) (gName 2))
  (t_changes_4 K W))
abbrev t_changes_2 (K : PySem.W.Frag) (W : WX) : TS := (tSeq (tDrop (tCallW W (sp_expect K) [] (tCons (tC (.int 1)) (tCons (tCall (sp_are_lists_by_name K) [] E0 (tCons (tVar 1) tNil)) tNil))))
  (t_changes_3 K W))
abbrev t_changes_1 (K : PySem.W.Frag) (W : WX) : TS := (tSeq (tDrop (tCallW W (sp_expect K) [] (tCons (tC (.int 0)) (tCons (tCall (sp_are_lists_by_name K) [] E0 (tCons (tVar 0) tNil)) tNil))))
  (t_changes_2 K W))
abbrev t_changes (K : PySem.W.Frag) (W : WX) : TS := (t_changes_1 K W)
theorem pure_changes {K : PySem.W.Frag} (vs : List V) (H : Hp) (Q : VK) (E : XK) (h : sp_changes K vs H Q E) : t_changes K (WT E) { nx := fun _ H' => Q .non H', rt := Q } (L2.start ["elder", "newer", "rows", "name"] vs) H := by
  obtain ⟨Rs, v_a_elder, a_elder, v_a_newer, a_newer, X, P, rfl, S0, hf, hX, hk⟩ := h
  show t_changes K (WT E) _ [some v_a_elder, some v_a_newer, none, none] H
  refine g_seq (g_drop (g_callW (g_cons (g_c (g_cons (g_call (g_cons (g_var rfl (g_nil (⟨_, _, _, _, rfl, (M.addA S0 (EnF.at 0 rfl)), hf, fun x2 H4 hf (S3 : M (da K v_a_elder ((eD iS (eL eI)) a_elder) :: da K v_a_newer ((eD iS (eL eI)) a_newer) :: Rs) H4) => ?_⟩))))))))))
  refine g_nil ?_
  have S6 : M (da K (V.int 0) (eI 0) :: da K v_a_elder ((eD iS (eL eI)) a_elder) :: da K v_a_newer ((eD iS (eL eI)) a_newer) :: Rs) H4 := M.addA S3 (EnF.all fun _ => .int _)
  refine ⟨_, _, _, _, _, _, rfl, (M.addA S6 (EnF.at 0 rfl)), hf, fun x13 d14 v15 H17 hf (S16 : M (pt d14 (.xd [(x13.fld, v15)]) :: da K v15 x13.val :: da K (V.int 0) (eI 0) :: da K v_a_elder ((eD iS (eL eI)) a_elder) :: da K v_a_newer ((eD iS (eL eI)) a_newer) :: Rs) H17) => ?_, fun _u9 H11 hf (S10 : M (da K (V.int 0) (eI 0) :: da K v_a_elder ((eD iS (eL eI)) a_elder) :: da K v_a_newer ((eD iS (eL eI)) a_newer) :: Rs) H11) => ?_⟩
  ·
    exact hX x13 d14 v15 _ hf (M.sub (.cons 0 rfl (.cons 0 rfl (.tl (.tl (.tl (.refl _)))))) S16)
  refine g_nx ?_
  have S20 : M (da K v_a_elder ((eD iS (eL eI)) a_elder) :: da K v_a_newer ((eD iS (eL eI)) a_newer) :: Rs) H11 := (M.drp S10 0)
  refine g_seq (g_drop (g_callW (g_cons (g_c (g_cons (g_call (g_cons (g_var rfl (g_nil (⟨_, _, _, _, rfl, (M.addA S20 (EnF.at 1 rfl)), hf, fun x22 H24 hf (S23 : M (da K v_a_elder ((eD iS (eL eI)) a_elder) :: da K v_a_newer ((eD iS (eL eI)) a_newer) :: Rs) H24) => ?_⟩))))))))))
  refine g_nil ?_
  have S26 : M (da K (V.int 1) (eI 1) :: da K v_a_elder ((eD iS (eL eI)) a_elder) :: da K v_a_newer ((eD iS (eL eI)) a_newer) :: Rs) H24 := M.addA S23 (EnF.all fun _ => .int _)
  refine ⟨_, _, _, _, _, _, rfl, (M.addA S26 (EnF.at 0 rfl)), hf, fun x33 d34 v35 H37 hf (S36 : M (pt d34 (.xd [(x33.fld, v35)]) :: da K v35 x33.val :: da K (V.int 1) (eI 1) :: da K v_a_elder ((eD iS (eL eI)) a_elder) :: da K v_a_newer ((eD iS (eL eI)) a_newer) :: Rs) H37) => ?_, fun _u29 H31 hf (S30 : M (da K (V.int 1) (eI 1) :: da K v_a_elder ((eD iS (eL eI)) a_elder) :: da K v_a_newer ((eD iS (eL eI)) a_newer) :: Rs) H31) => ?_⟩
  ·
    exact hX x33 d34 v35 _ hf (M.sub (.cons 0 rfl (.cons 0 rfl (.tl (.tl (.tl (.refl _)))))) S36)
  refine g_nx ?_
  have S40 : M (da K v_a_elder ((eD iS (eL eI)) a_elder) :: da K v_a_newer ((eD iS (eL eI)) a_newer) :: Rs) H31 := (M.drp S30 0)
  refine g_seq (g_asg (g_lst (g_nil ?_)))
  refine v_lst S40 (len_ok rfl) fun p41 H43 (S42 : M (pt p41 (.lst []) :: da K v_a_elder ((eD iS (eL eI)) a_elder) :: da K v_a_newer ((eD iS (eL eI)) a_newer) :: Rs) H43) => ?_
  have S46 : M (starR (odR K) [] [] :: pt p41 (.lst []) :: da K v_a_elder ((eD iS (eL eI)) a_elder) :: da K v_a_newer ((eD iS (eL eI)) a_newer) :: Rs) H43 := M.addE S42
  have S48 : M (lsR (odR K) p41 ([] : (List OD)) :: da K v_a_elder ((eD iS (eL eI)) a_elder) :: da K v_a_newer ((eD iS (eL eI)) a_newer) :: Rs) H43 := lsR_mk (M.sub (.cons 1 rfl (.cons 0 rfl (.refl _))) S46)
  refine g_nx ?_
  refine g_seq (g_for (g_iList (g_w fun w => ?_)))
  refine g_cb (g_cons (g_op (g_cb (g_cons (g_var rfl (g_nil ?_))))))
  obtain ⟨h49, hf⟩ := hf
  refine v_setD (M.dvA S48 1 rfl) h49 fun p50 L51 H54 h52 (S53 : M (pt p50 (SetH w p50 L51) :: lsR (odR K) p41 ([] : (List OD)) :: da K v_a_elder ((eD iS (eL eI)) a_elder) :: da K v_a_newer ((eD iS (eL eI)) a_newer) :: Rs) H54) => ?_
  refine g_cb (g_cons (g_var rfl (g_nil ?_)))
  obtain ⟨h56, hf⟩ := hf
  refine v_setD (M.dvA S53 3 rfl) h56 fun p57 L58 H61 h59 (S60 : M (pt p57 (SetH w p57 L58) :: pt p50 (SetH w p50 L51) :: lsR (odR K) p41 ([] : (List OD)) :: da K v_a_elder ((eD iS (eL eI)) a_elder) :: da K v_a_newer ((eD iS (eL eI)) a_newer) :: Rs) H61) => ?_
  obtain ⟨h63, hf⟩ := hf
  refine v_orS (M.sub (.cons 0 rfl (.cons 0 rfl (.refl _))) S60) h52 h59 h63 fun p64 L65 H68 h66 (S67 : M (pt p64 (SetH w p64 L65) :: lsR (odR K) p41 ([] : (List OD)) :: da K v_a_elder ((eD iS (eL eI)) a_elder) :: da K v_a_newer ((eD iS (eL eI)) a_newer) :: Rs) H68) => ?_
  refine g_nil (v_sortMS (M.sub (.cons 0 rfl (.refl _)) S67) h66 fun p70 H72 (S71 : M (acR K p70 ((srtS' (dd ((ks a_elder) ++ (ks a_newer)))).map eS) :: lsR (odR K) p41 ([] : (List OD)) :: da K v_a_elder ((eD iS (eL eI)) a_elder) :: da K v_a_newer ((eD iS (eL eI)) a_newer) :: Rs) H72) => ?_)
  refine for_N flS (K := K) (β := (List OD)) hf (fun (s74 : (List OD)) σ H' => ∃ (o79 : Option V), σ = [some v_a_elder, some v_a_newer, some (V.ref p41), o79] ∧ M (lsR (odR K) p41 s74 :: acR K p70 ((srtS' (dd ((ks a_elder) ++ (ks a_newer)))).map eS) :: da K v_a_elder ((eD iS (eL eI)) a_elder) :: da K v_a_newer ((eD iS (eL eI)) a_newer) :: Rs) H') ⟨_, rfl, (M.sub (.cons 1 rfl (.cons 0 rfl (.cons 0 rfl (.cons 0 rfl (.refl _))))) S71)⟩ (fun _ _ _ h => by obtain ⟨_, _, S⟩ := h; exact S.gotO 1 rfl) ?_ ?_
  ·
    rintro x77 s74 _ H81 kk76 ⟨o79, rfl, S80⟩ hf
    refine g_name (g_if (g_test (g_op (g_var rfl (g_var rfl (d_ninS (M.dvA S80 3 rfl) (g_bl (v_iff hf (fun _ hf => ?_) (fun _ hf => ?_)))))))))
    ·
      refine g_drop (g_bm (g_var rfl (M.tyLs S80 0 rfl (g_cons (g_tup (g_cons (g_c (g_cons (g_var rfl (g_nil (v_tupq S80 (EnF.consA (EnF.all fun _ => .str _) (EnF.consA (EnF.all fun _ => .str _) EnF.nilA)) (len_ok rfl) fun p82 H84 (S83 : M (da K (V.ref p82) ((eP eS eS) (("gone" : Str), x77)) :: lsR (odR K) p41 s74 :: acR K p70 ((srtS' (dd ((ks a_elder) ++ (ks a_newer)))).map eS) :: da K v_a_elder ((eD iS (eL eI)) a_elder) :: da K v_a_newer ((eD iS (eL eI)) a_newer) :: Rs) H84) => ?_)))))))))))
      refine g_nil ?_
      have S87 : M (odR K (V.ref p82) (OD.fz ((eP eS eS) (("gone" : Str), x77))) :: da K (V.ref p82) ((eP eS eS) (("gone" : Str), x77)) :: lsR (odR K) p41 s74 :: acR K p70 ((srtS' (dd ((ks a_elder) ++ (ks a_newer)))).map eS) :: da K v_a_elder ((eD iS (eL eI)) a_elder) :: da K v_a_newer ((eD iS (eL eI)) a_newer) :: Rs) H84 := M.addA S83 (EnF.at 0 rfl)
      have S88 : M (odR K (V.ref p82) (OD.fz ((eP eS eS) (("gone" : Str), x77))) :: da K (V.ref p82) ((eP eS eS) (("gone" : Str), x77)) :: lsR (odR K) p41 s74 :: acR K p70 ((srtS' (dd ((ks a_elder) ++ (ks a_newer)))).map eS) :: da K v_a_elder ((eD iS (eL eI)) a_elder) :: da K v_a_newer ((eD iS (eL eI)) a_newer) :: Rs) H84 := M.at S87 0 rfl
      obtain ⟨h89, hf⟩ := hf
      refine v_apLs (M.sub (.cons 0 rfl (.cons 1 rfl (.refl _))) S88) h89 fun H91 (S90 : M (lsR (odR K) p41 (sno s74 (OD.fz ((eP eS eS) (("gone" : Str), x77)))) :: da K (V.ref p82) ((eP eS eS) (("gone" : Str), x77)) :: acR K p70 ((srtS' (dd ((ks a_elder) ++ (ks a_newer)))).map eS) :: da K v_a_elder ((eD iS (eL eI)) a_elder) :: da K v_a_newer ((eD iS (eL eI)) a_newer) :: Rs) H91) => ?_
      exact ⟨_, hf, _, rfl, (M.sub (.cons 0 rfl (.cons 1 rfl (.cons 1 rfl (.cons 1 rfl (.tl (.refl _)))))) S90)⟩
    ·
      refine g_if ?_
      refine tt_cut hf (fun H => M (lsR (odR K) p41 s74 :: acR K p70 ((srtS' (dd ((ks a_elder) ++ (ks a_newer)))).map eS) :: da K v_a_elder ((eD iS (eL eI)) a_elder) :: da K v_a_newer ((eD iS (eL eI)) a_newer) :: Rs) H) (fun kk94 P95 hP96 hf => ?_) ?_
      ·
        refine g_or (g_test (g_op (g_var rfl (g_var rfl (d_ninS (M.dvA S80 2 rfl) (g_bl (v_iff hf (fun _ hf => ?_) (fun _ hf => ?_))))))))
        ·
          exact hP96 _ _ hf (M.sub (.cons 0 rfl (.cons 0 rfl (.cons 0 rfl (.cons 0 rfl (.refl _))))) S80)
        ·
          refine g_test (g_op (g_op (g_var rfl (g_var rfl ?_))))
          obtain ⟨x99, h100, hf⟩ := hf
          refine d_ixS (M.dvA S80 2 rfl) h100 fun u101 S102 => ?_
          refine g_op (g_var rfl (g_var rfl ?_))
          obtain ⟨x104, h105, hf⟩ := hf
          refine d_ixS (M.dvA S102 4 rfl) h105 fun u106 S107 => ?_
          refine v_neLI (M.gotA S107 1 rfl) (M.gotA S107 0 rfl) (g_bl ?_)
          exact hP96 _ _ hf (M.sub (.cons 2 rfl (.cons 2 rfl (.cons 2 rfl (.cons 2 rfl (.tl (.tl (.refl _))))))) S107)
      intro c93 H110 hf S109
      refine v_iff hf (fun _ hf => ?_) (fun _ hf => ?_)
      ·
        refine g_drop (g_bm (g_var rfl (M.tyLs S109 0 rfl (g_cons (g_tup (g_cons (g_c (g_cons (g_var rfl (g_cons (g_cb (g_cons (g_op (g_var rfl (g_var rfl ?_)))))))))))))))
        obtain ⟨x111, h112, hf⟩ := hf
        refine d_ixS (M.dvA S109 3 rfl) h112 fun u113 S114 => ?_
        refine g_nil (v_liN flI S114 (M.gotA S114 0 rfl) fun p116 H118 (S117 : M (acR K p116 (x111.map eI) :: da K u113 ((eL eI) x111) :: lsR (odR K) p41 s74 :: acR K p70 ((srtS' (dd ((ks a_elder) ++ (ks a_newer)))).map eS) :: da K v_a_elder ((eD iS (eL eI)) a_elder) :: da K v_a_newer ((eD iS (eL eI)) a_newer) :: Rs) H118) => ?_)
        refine g_nil ?_
        refine v_tup S117 (len_ok rfl) fun p120 H122 (S121 : M (pt p120 (.tup [(V.str ("put" : Str)), (V.str x77), (V.ref p116)]) :: acR K p116 (x111.map eI) :: da K u113 ((eL eI) x111) :: lsR (odR K) p41 s74 :: acR K p70 ((srtS' (dd ((ks a_elder) ++ (ks a_newer)))).map eS) :: da K v_a_elder ((eD iS (eL eI)) a_elder) :: da K v_a_newer ((eD iS (eL eI)) a_newer) :: Rs) H122) => ?_
        have S125 : M (starR (odR K) [] [] :: pt p120 (.tup [(V.str ("put" : Str)), (V.str x77), (V.ref p116)]) :: acR K p116 (x111.map eI) :: da K u113 ((eL eI) x111) :: lsR (odR K) p41 s74 :: acR K p70 ((srtS' (dd ((ks a_elder) ++ (ks a_newer)))).map eS) :: da K v_a_elder ((eD iS (eL eI)) a_elder) :: da K v_a_newer ((eD iS (eL eI)) a_newer) :: Rs) H122 := M.addE S121
        have S127 : M (odR K (V.ref p116) (OD.ol (OD.fzs eI x111)) :: starR (odR K) [] [] :: pt p120 (.tup [(V.str ("put" : Str)), (V.str x77), (V.ref p116)]) :: da K u113 ((eL eI) x111) :: lsR (odR K) p41 s74 :: acR K p70 ((srtS' (dd ((ks a_elder) ++ (ks a_newer)))).map eS) :: da K v_a_elder ((eD iS (eL eI)) a_elder) :: da K v_a_newer ((eD iS (eL eI)) a_newer) :: Rs) H122 := M.acOD (M.at S125 2 rfl)
        have S128 : M (odR K (V.ref p116) (OD.ol (OD.fzs eI x111)) :: starR (odR K) [] [] :: pt p120 (.tup [(V.str ("put" : Str)), (V.str x77), (V.ref p116)]) :: da K u113 ((eL eI) x111) :: lsR (odR K) p41 s74 :: acR K p70 ((srtS' (dd ((ks a_elder) ++ (ks a_newer)))).map eS) :: da K v_a_elder ((eD iS (eL eI)) a_elder) :: da K v_a_newer ((eD iS (eL eI)) a_newer) :: Rs) H122 := M.at S127 0 rfl
        have S130 : M (starR (odR K) [(V.ref p116)] [(OD.ol (OD.fzs eI x111))] :: pt p120 (.tup [(V.str ("put" : Str)), (V.str x77), (V.ref p116)]) :: da K u113 ((eL eI) x111) :: lsR (odR K) p41 s74 :: acR K p70 ((srtS' (dd ((ks a_elder) ++ (ks a_newer)))).map eS) :: da K v_a_elder ((eD iS (eL eI)) a_elder) :: da K v_a_newer ((eD iS (eL eI)) a_newer) :: Rs) H122 := M.sp' (M.sub (.cons 0 rfl (.cons 0 rfl (.refl _))) S128)
        have S132 : M (odR K (V.str x77) (OD.fz (eS x77)) :: starR (odR K) [(V.ref p116)] [(OD.ol (OD.fzs eI x111))] :: pt p120 (.tup [(V.str ("put" : Str)), (V.str x77), (V.ref p116)]) :: da K u113 ((eL eI) x111) :: lsR (odR K) p41 s74 :: acR K p70 ((srtS' (dd ((ks a_elder) ++ (ks a_newer)))).map eS) :: da K v_a_elder ((eD iS (eL eI)) a_elder) :: da K v_a_newer ((eD iS (eL eI)) a_newer) :: Rs) H122 := M.addA S130 (EnF.all fun _ => .str _)
        have S133 : M (odR K (V.str x77) (OD.fz (eS x77)) :: starR (odR K) [(V.ref p116)] [(OD.ol (OD.fzs eI x111))] :: pt p120 (.tup [(V.str ("put" : Str)), (V.str x77), (V.ref p116)]) :: da K u113 ((eL eI) x111) :: lsR (odR K) p41 s74 :: acR K p70 ((srtS' (dd ((ks a_elder) ++ (ks a_newer)))).map eS) :: da K v_a_elder ((eD iS (eL eI)) a_elder) :: da K v_a_newer ((eD iS (eL eI)) a_newer) :: Rs) H122 := M.at S132 0 rfl
        have S135 : M (starR (odR K) [(V.str x77), (V.ref p116)] [(OD.fz (eS x77)), (OD.ol (OD.fzs eI x111))] :: pt p120 (.tup [(V.str ("put" : Str)), (V.str x77), (V.ref p116)]) :: da K u113 ((eL eI) x111) :: lsR (odR K) p41 s74 :: acR K p70 ((srtS' (dd ((ks a_elder) ++ (ks a_newer)))).map eS) :: da K v_a_elder ((eD iS (eL eI)) a_elder) :: da K v_a_newer ((eD iS (eL eI)) a_newer) :: Rs) H122 := M.sp' (M.sub (.cons 0 rfl (.cons 0 rfl (.refl _))) S133)
        have S137 : M (odR K (V.str ("put" : Str)) (OD.fz (eS ("put" : Str))) :: starR (odR K) [(V.str x77), (V.ref p116)] [(OD.fz (eS x77)), (OD.ol (OD.fzs eI x111))] :: pt p120 (.tup [(V.str ("put" : Str)), (V.str x77), (V.ref p116)]) :: da K u113 ((eL eI) x111) :: lsR (odR K) p41 s74 :: acR K p70 ((srtS' (dd ((ks a_elder) ++ (ks a_newer)))).map eS) :: da K v_a_elder ((eD iS (eL eI)) a_elder) :: da K v_a_newer ((eD iS (eL eI)) a_newer) :: Rs) H122 := M.addA S135 (EnF.all fun _ => .str _)
        have S138 : M (odR K (V.str ("put" : Str)) (OD.fz (eS ("put" : Str))) :: starR (odR K) [(V.str x77), (V.ref p116)] [(OD.fz (eS x77)), (OD.ol (OD.fzs eI x111))] :: pt p120 (.tup [(V.str ("put" : Str)), (V.str x77), (V.ref p116)]) :: da K u113 ((eL eI) x111) :: lsR (odR K) p41 s74 :: acR K p70 ((srtS' (dd ((ks a_elder) ++ (ks a_newer)))).map eS) :: da K v_a_elder ((eD iS (eL eI)) a_elder) :: da K v_a_newer ((eD iS (eL eI)) a_newer) :: Rs) H122 := M.at S137 0 rfl
        have S140 : M (starR (odR K) [(V.str ("put" : Str)), (V.str x77), (V.ref p116)] [(OD.fz (eS ("put" : Str))), (OD.fz (eS x77)), (OD.ol (OD.fzs eI x111))] :: pt p120 (.tup [(V.str ("put" : Str)), (V.str x77), (V.ref p116)]) :: da K u113 ((eL eI) x111) :: lsR (odR K) p41 s74 :: acR K p70 ((srtS' (dd ((ks a_elder) ++ (ks a_newer)))).map eS) :: da K v_a_elder ((eD iS (eL eI)) a_elder) :: da K v_a_newer ((eD iS (eL eI)) a_newer) :: Rs) H122 := M.sp' (M.sub (.cons 0 rfl (.cons 0 rfl (.refl _))) S138)
        have S142 : M (odR K (V.ref p120) (OD.ot [(OD.fz (eS ("put" : Str))), (OD.fz (eS x77)), (OD.ol (OD.fzs eI x111))]) :: da K u113 ((eL eI) x111) :: lsR (odR K) p41 s74 :: acR K p70 ((srtS' (dd ((ks a_elder) ++ (ks a_newer)))).map eS) :: da K v_a_elder ((eD iS (eL eI)) a_elder) :: da K v_a_newer ((eD iS (eL eI)) a_newer) :: Rs) H122 := M.odTC (M.sub (.cons 1 rfl (.cons 0 rfl (.refl _))) S140)
        refine g_nil ?_
        have S143 : M (odR K (V.ref p120) (OD.ot [(OD.fz (eS ("put" : Str))), (OD.fz (eS x77)), (OD.ol (OD.fzs eI x111))]) :: da K u113 ((eL eI) x111) :: lsR (odR K) p41 s74 :: acR K p70 ((srtS' (dd ((ks a_elder) ++ (ks a_newer)))).map eS) :: da K v_a_elder ((eD iS (eL eI)) a_elder) :: da K v_a_newer ((eD iS (eL eI)) a_newer) :: Rs) H122 := M.at S142 0 rfl
        obtain ⟨h144, hf⟩ := hf
        refine v_apLs (M.sub (.cons 0 rfl (.cons 1 rfl (.refl _))) S143) h144 fun H146 (S145 : M (lsR (odR K) p41 (sno s74 (OD.ot [(OD.fz (eS ("put" : Str))), (OD.fz (eS x77)), (OD.ol (OD.fzs eI x111))])) :: da K u113 ((eL eI) x111) :: acR K p70 ((srtS' (dd ((ks a_elder) ++ (ks a_newer)))).map eS) :: da K v_a_elder ((eD iS (eL eI)) a_elder) :: da K v_a_newer ((eD iS (eL eI)) a_newer) :: Rs) H146) => ?_
        exact ⟨_, hf, _, rfl, (M.sub (.cons 0 rfl (.cons 1 rfl (.cons 1 rfl (.cons 1 rfl (.tl (.refl _)))))) S145)⟩
      ·
        refine g_next ?_
        exact ⟨_, hf, _, rfl, (M.sub (.cons 0 rfl (.cons 0 rfl (.cons 0 rfl (.cons 0 rfl (.refl _))))) S109)⟩
  rintro s74 _ H149 hf ⟨o79, rfl, S148⟩
  refine g_nx ?_
  refine g_ret (g_var rfl ?_)
  exact hk _ _ _ hf (M.sub (.cons 0 rfl (.tl (.tl (.tl (.refl _))))) S148)
def p_l_names (a_many : Int) (P : (List Str) → Prop) : Prop := takeD 3 fun n8 => takeD 26 fun n12 => takeD 8 fun n16 => takeD (1 + n16) fun n20 => ((-(2 ^ 62) : Int) ≤ (1 + n16) ∧ (1 + n16) < (2 ^ 62 : Int)) ∧ (rng (1 + n16)).length ≤ 100000 ∧ lcD (fun (x27 : Int) (k34 : Option Str → Prop) => takeD 26 fun n36 => ∃ x39, atS ("abcdefghijklmnopqrstuvwxyz" : Str) n36 = some x39 ∧ k34 (some x39)) (rng (1 + n16)) [] fun acc24 => if (decide (n8 = 0)) = true then (([("none" : Str), ("log" : Str), ("full" : Str), ("step" : Str), ("wide" : Str), ("a" : Str), ("ab" : Str), ("files" : Str), ("run" : Str), ("put" : Str), ("gone" : Str), ("moments" : Str)]).length + ([("none" : Str), ("log" : Str), ("full" : Str), ("step" : Str), ("wide" : Str), ("a" : Str), ("ab" : Str), ("files" : Str), ("run" : Str), ("put" : Str), ("gone" : Str), ("moments" : Str)]).length ≤ 100000 ∧ ((0 : Int) < 12) ∧ P (cutL (cutL (cat ([("none" : Str), ("log" : Str), ("full" : Str), ("step" : Str), ("wide" : Str), ("a" : Str), ("ab" : Str), ("files" : Str), ("run" : Str), ("put" : Str), ("gone" : Str), ("moments" : Str)]) ([("none" : Str), ("log" : Str), ("full" : Str), ("step" : Str), ("wide" : Str), ("a" : Str), ("ab" : Str), ("files" : Str), ("run" : Str), ("put" : Str), ("gone" : Str), ("moments" : Str)])) (some (n12 % 12)) none) none (some a_many))) else (((-(2 ^ 62) : Int) ≤ a_many ∧ a_many < (2 ^ 62 : Int)) ∧ (rng a_many).length ≤ 100000 ∧ lcD (fun (x72 : Int) (k79 : Option Str → Prop) => ((0 : Int) < 26) ∧ ∃ x87, atS ("abcdefghijklmnopqrstuvwxyz" : Str) ((n12 + x72) % 26) = some x87 ∧ ((cutL acc24 none (some n20))).length + ([x87]).length ≤ 100000 ∧ ((cat (cutL acc24 none (some n20)) ([x87]))).length + ((cutL acc24 (some (n20 + 1)) none)).length ≤ 100000 ∧ ((((cat (cat (cutL acc24 none (some n20)) ([x87])) (cutL acc24 (some (n20 + 1)) none))).map (·.length)).sum + ((cat (cat (cutL acc24 none (some n20)) ([x87])) (cutL acc24 (some (n20 + 1)) none))).length * (("" : Str)).length ≤ 16777216) ∧ k79 (some (Txt.join ("" : Str) (cat (cat (cutL acc24 none (some n20)) ([x87])) (cutL acc24 (some (n20 + 1)) none))))) (rng a_many) [] fun acc69 => P acc69)
def sp_l_names (K : PySem.W.Frag) : Sp := fun vs H Q _ => ∃ (Rs : List Res) (a_bag_here : Addr) (a_many : Int) (P : (List Str) → Prop), vs = [(V.ref a_bag_here), (V.int a_many)] ∧ M (bagR a_bag_here :: Rs) H ∧ p_l_names a_many P ∧ ∀ (r : (List Str)) (v : V) H', P r → M (da K v ((eL eS) r) :: bagR a_bag_here :: Rs) H' → Q v H'
theorem len_l_names {K : PySem.W.Frag} (vs : List V) (H : Hp) (Q : VK) (E : XK) (h : sp_l_names K vs H Q E) : vs.length = 2 := by
  obtain ⟨Rs, a_bag_here, a_many, P, rfl, _⟩ := h
  rfl
abbrev t_l_names_8 (K : PySem.W.Frag) : TS := (tSeq (tIfS (tTest (tOp (uEq K) (tVar 4) (tC (.int 0)))) (tRet (tSl (uSl K) (tSl (uSl K) (tOp (uAdd K) (tVar 3) (tVar 3)) (tPart (tOp uMod (tVar 5) (tC (.int 12)))) tNoPart) tNoPart (tPart (tVar 1)))) tNext)
  (tRet (tLc (iRng1 (tCons (tVar 1) tNil)) (gName 9) tYes (tM1 (rJoin K) (tC (.str "")) (tOp (uAdd K) (tOp (uAdd K) (tSl (uSl K) (tVar 8) tNoPart (tPart (tVar 7))) (tLst (tCons (tOp (uIx K) (tVar 2) (tOp uMod (tOp (uAdd K) (tVar 5) (tVar 9)) (tC (.int 26)))) tNil))) (tSl (uSl K) (tVar 8) (tPart (tOp (uAdd K) (tVar 7) (tC (.int 1)))) tNoPart))) [9])))
abbrev t_l_names_7 (K : PySem.W.Frag) : TS := (tSeq (tAsg (tLc (iRng1 (tCons (tVar 6) tNil)) (gName 9) tYes (tOp (uIx K) (tVar 2) (tCall (sp_l_take K) [] E0 (tCons (tVar 0) (tCons (tC (.int 26)) tNil)))) [9]) (gName 8))
  (t_l_names_8 K))
abbrev t_l_names_6 (K : PySem.W.Frag) : TS := (tSeq (tAsg (tCall (sp_l_take K) [] E0 (tCons (tVar 0) (tCons (tVar 6) tNil))) (gName 7))
  (t_l_names_7 K))
abbrev t_l_names_5 (K : PySem.W.Frag) : TS := (tSeq (tAsg (tOp (uAdd K) (tC (.int 1)) (tCall (sp_l_take K) [] E0 (tCons (tVar 0) (tCons (tC (.int 8)) tNil)))) (gName 6))
  (t_l_names_6 K))
abbrev t_l_names_4 (K : PySem.W.Frag) : TS := (tSeq (tAsg (tCall (sp_l_take K) [] E0 (tCons (tVar 0) (tCons (tC (.int 26)) tNil))) (gName 5))
  (t_l_names_5 K))
abbrev t_l_names_3 (K : PySem.W.Frag) : TS := (tSeq (tAsg (tCall (sp_l_take K) [] E0 (tCons (tVar 0) (tCons (tC (.int 3)) tNil))) (gName 4))
  (t_l_names_4 K))
abbrev t_l_names_2 (K : PySem.W.Frag) : TS := (tSeq (tAsg (tLst (tCons (tC (.str "none")) (tCons (tC (.str "log")) (tCons (tC (.str "full")) (tCons (tC (.str "step")) (tCons (tC (.str "wide")) (tCons (tC (.str "a")) (tCons (tC (.str "ab")) (tCons (tC (.str "files")) (tCons (tC (.str "run")) (tCons (tC (.str "put")) (tCons (tC (.str "gone")) (tCons (tC (.str "moments")) tNil))))))))))))) (gName 3))
  (t_l_names_3 K))
abbrev t_l_names_1 (K : PySem.W.Frag) : TS := (tSeq (tAsg (tC (.str "abcdefghijklmnopqrstuvwxyz")) (gName 2))
  (t_l_names_2 K))
abbrev t_l_names (K : PySem.W.Frag) : TS := (t_l_names_1 K)
theorem pure_l_names {K : PySem.W.Frag} (vs : List V) (H : Hp) (Q : VK) (E : XK) (h : sp_l_names K vs H Q E) : t_l_names K { nx := fun _ H' => Q .non H', rt := Q } (L2.start ["_law_bag_here", "_law_many", "_law_letters", "_law_words", "_law_pick", "_law_turn", "_law_size", "_law_at", "_law_base", "_law_k"] vs) H := by
  obtain ⟨Rs, a_bag_here, a_many, P, rfl, S0, hf, hk⟩ := h
  show t_l_names K _ [some (V.ref a_bag_here), some (V.int a_many), none, none, none, none, none, none, none, none] H
  refine g_seq (g_asg (g_c (g_nx ?_)))
  refine g_seq (g_asg (g_lst (g_cons (g_c (g_cons (g_c (g_cons (g_c (g_cons (g_c (g_cons (g_c (g_cons (g_c (g_cons (g_c (g_cons (g_c (g_cons (g_c (g_cons (g_c (g_cons (g_c (g_cons (g_c (g_nil (v_lsto (ds := ([("none" : Str), ("log" : Str), ("full" : Str), ("step" : Str), ("wide" : Str), ("a" : Str), ("ab" : Str), ("files" : Str), ("run" : Str), ("put" : Str), ("gone" : Str), ("moments" : Str)]).map eS) S0 (EnF.consA (EnF.all fun _ => .str _) (EnF.consA (EnF.all fun _ => .str _) (EnF.consA (EnF.all fun _ => .str _) (EnF.consA (EnF.all fun _ => .str _) (EnF.consA (EnF.all fun _ => .str _) (EnF.consA (EnF.all fun _ => .str _) (EnF.consA (EnF.all fun _ => .str _) (EnF.consA (EnF.all fun _ => .str _) (EnF.consA (EnF.all fun _ => .str _) (EnF.consA (EnF.all fun _ => .str _) (EnF.consA (EnF.all fun _ => .str _) (EnF.consA (EnF.all fun _ => .str _) EnF.nilA)))))))))))) (len_ok rfl) fun p1 H3 (S2 : M (acR K p1 (([("none" : Str), ("log" : Str), ("full" : Str), ("step" : Str), ("wide" : Str), ("a" : Str), ("ab" : Str), ("files" : Str), ("run" : Str), ("put" : Str), ("gone" : Str), ("moments" : Str)]).map eS) :: bagR a_bag_here :: Rs) H3) => ?_))))))))))))))))))))))))))))
  have S5 : M (da K (V.ref p1) ((eL eS) ([("none" : Str), ("log" : Str), ("full" : Str), ("step" : Str), ("wide" : Str), ("a" : Str), ("ab" : Str), ("files" : Str), ("run" : Str), ("put" : Str), ("gone" : Str), ("moments" : Str)])) :: bagR a_bag_here :: Rs) H3 := acR_fixL S2
  refine g_nx ?_
  refine g_seq (g_asg (g_call (g_cons (g_var rfl (g_cons (g_c (g_nil ?_)))))))
  obtain ⟨h7, hf⟩ := hf
  refine u_take (S5.at 1 rfl) h7 fun n8 H10 n8l n8u (S9 : M (bagR a_bag_here :: da K (V.ref p1) ((eL eS) ([("none" : Str), ("log" : Str), ("full" : Str), ("step" : Str), ("wide" : Str), ("a" : Str), ("ab" : Str), ("files" : Str), ("run" : Str), ("put" : Str), ("gone" : Str), ("moments" : Str)])) :: Rs) H10) => ?_
  replace hf := hf n8 n8l n8u
  refine g_nx ?_
  refine g_seq (g_asg (g_call (g_cons (g_var rfl (g_cons (g_c (g_nil ?_)))))))
  obtain ⟨h11, hf⟩ := hf
  refine u_take (S9.at 0 rfl) h11 fun n12 H14 n12l n12u (S13 : M (bagR a_bag_here :: da K (V.ref p1) ((eL eS) ([("none" : Str), ("log" : Str), ("full" : Str), ("step" : Str), ("wide" : Str), ("a" : Str), ("ab" : Str), ("files" : Str), ("run" : Str), ("put" : Str), ("gone" : Str), ("moments" : Str)])) :: Rs) H14) => ?_
  replace hf := hf n12 n12l n12u
  refine g_nx ?_
  refine g_seq (g_asg (g_op (g_c (g_call (g_cons (g_var rfl (g_cons (g_c (g_nil ?_)))))))))
  obtain ⟨h15, hf⟩ := hf
  refine u_take (S13.at 0 rfl) h15 fun n16 H18 n16l n16u (S17 : M (bagR a_bag_here :: da K (V.ref p1) ((eL eS) ([("none" : Str), ("log" : Str), ("full" : Str), ("step" : Str), ("wide" : Str), ("a" : Str), ("ab" : Str), ("files" : Str), ("run" : Str), ("put" : Str), ("gone" : Str), ("moments" : Str)])) :: Rs) H18) => ?_
  replace hf := hf n16 n16l n16u
  refine v_add (g_nx ?_)
  refine g_seq (g_asg (g_call (g_cons (g_var rfl (g_cons (g_var rfl (g_nil ?_)))))))
  obtain ⟨h19, hf⟩ := hf
  refine u_take (S17.at 0 rfl) h19 fun n20 H22 n20l n20u (S21 : M (bagR a_bag_here :: da K (V.ref p1) ((eL eS) ([("none" : Str), ("log" : Str), ("full" : Str), ("step" : Str), ("wide" : Str), ("a" : Str), ("ab" : Str), ("files" : Str), ("run" : Str), ("put" : Str), ("gone" : Str), ("moments" : Str)])) :: Rs) H22) => ?_
  replace hf := hf n20 n20l n20u
  refine g_nx ?_
  obtain ⟨h23, hf⟩ := hf
  refine g_seq (g_asg (g_lc (g_iRng1 (g_cons (g_var rfl (g_nil (v_itR h23 ?_)))))))
  refine lc_rng (K := K) (e' := eS) hf S21 (fun x27 acc24 E25 H33 kk26 N28 hl29 S32 hf hp30 hn31 => ?_) (fun E25 acc24 H44 hf S43 => ?_)
  ·
    refine g_name (g_wipe rfl (g_yes (v_ifT (g_op (g_var rfl (g_call (g_cons (g_var rfl (g_cons (g_c (g_nil ?_)))))))))))
    obtain ⟨h35, hf⟩ := hf
    refine u_take (S32.at 1 rfl) h35 fun n36 H38 n36l n36u (S37 : M (bagR a_bag_here :: acR K E25 (acc24.map eS) :: da K (V.ref p1) ((eL eS) ([("none" : Str), ("log" : Str), ("full" : Str), ("step" : Str), ("wide" : Str), ("a" : Str), ("ab" : Str), ("files" : Str), ("run" : Str), ("put" : Str), ("gone" : Str), ("moments" : Str)])) :: Rs) H38) => ?_
    replace hf := hf n36 n36l n36u
    obtain ⟨x39, h40, hf⟩ := hf
    refine v_ixs h40 (acR_put S37 1 rfl (EnF.all fun _ => .str _) hl29 fun H42 (S41 : M (acR K E25 (acc24.map eS ++ [eS x39]) :: bagR a_bag_here :: da K (V.ref p1) ((eL eS) ([("none" : Str), ("log" : Str), ("full" : Str), ("step" : Str), ("wide" : Str), ("a" : Str), ("ab" : Str), ("files" : Str), ("run" : Str), ("put" : Str), ("gone" : Str), ("moments" : Str)])) :: Rs) H42) => ?_)
    exact hp30 _ _ hf (M.sub (.cons 0 rfl (.cons 0 rfl (.cons 0 rfl (.refl _)))) S41)
  have S46 : M (da K (V.ref E25) ((eL eS) acc24) :: bagR a_bag_here :: da K (V.ref p1) ((eL eS) ([("none" : Str), ("log" : Str), ("full" : Str), ("step" : Str), ("wide" : Str), ("a" : Str), ("ab" : Str), ("files" : Str), ("run" : Str), ("put" : Str), ("gone" : Str), ("moments" : Str)])) :: Rs) H44 := acR_fixL S43
  refine g_nx ?_
  refine g_seq (g_if (g_test (g_op (g_var rfl (g_c (v_eqI (g_bl (v_iff hf (fun _ hf => ?_) (fun _ hf => ?_)))))))))
  ·
    refine g_ret (g_sl (g_sl (g_op (g_var rfl (g_var rfl ?_)))))
    obtain ⟨h48, hf⟩ := hf
    refine v_catN flS S46 (M.gotA S46 2 rfl) (M.gotA S46 2 rfl) h48 fun p49 H51 (S50 : M (acR K p49 ((cat ([("none" : Str), ("log" : Str), ("full" : Str), ("step" : Str), ("wide" : Str), ("a" : Str), ("ab" : Str), ("files" : Str), ("run" : Str), ("put" : Str), ("gone" : Str), ("moments" : Str)]) ([("none" : Str), ("log" : Str), ("full" : Str), ("step" : Str), ("wide" : Str), ("a" : Str), ("ab" : Str), ("files" : Str), ("run" : Str), ("put" : Str), ("gone" : Str), ("moments" : Str)])).map eS) :: da K (V.ref E25) ((eL eS) acc24) :: bagR a_bag_here :: da K (V.ref p1) ((eL eS) ([("none" : Str), ("log" : Str), ("full" : Str), ("step" : Str), ("wide" : Str), ("a" : Str), ("ab" : Str), ("files" : Str), ("run" : Str), ("put" : Str), ("gone" : Str), ("moments" : Str)])) :: Rs) H51) => ?_
    have S53 : M (da K (V.ref p49) ((eL eS) (cat ([("none" : Str), ("log" : Str), ("full" : Str), ("step" : Str), ("wide" : Str), ("a" : Str), ("ab" : Str), ("files" : Str), ("run" : Str), ("put" : Str), ("gone" : Str), ("moments" : Str)]) ([("none" : Str), ("log" : Str), ("full" : Str), ("step" : Str), ("wide" : Str), ("a" : Str), ("ab" : Str), ("files" : Str), ("run" : Str), ("put" : Str), ("gone" : Str), ("moments" : Str)]))) :: da K (V.ref E25) ((eL eS) acc24) :: bagR a_bag_here :: da K (V.ref p1) ((eL eS) ([("none" : Str), ("log" : Str), ("full" : Str), ("step" : Str), ("wide" : Str), ("a" : Str), ("ab" : Str), ("files" : Str), ("run" : Str), ("put" : Str), ("gone" : Str), ("moments" : Str)])) :: Rs) H51 := acR_fixL S50
    obtain ⟨h55, hf⟩ := hf
    refine g_part (g_op (g_var rfl (g_c (v_mod h55 (g_int (g_noPart (v_slN flS S53 (M.gotA S53 0 rfl) fun p56 H58 (S57 : M (acR K p56 ((cutL (cat ([("none" : Str), ("log" : Str), ("full" : Str), ("step" : Str), ("wide" : Str), ("a" : Str), ("ab" : Str), ("files" : Str), ("run" : Str), ("put" : Str), ("gone" : Str), ("moments" : Str)]) ([("none" : Str), ("log" : Str), ("full" : Str), ("step" : Str), ("wide" : Str), ("a" : Str), ("ab" : Str), ("files" : Str), ("run" : Str), ("put" : Str), ("gone" : Str), ("moments" : Str)])) (some (n12 % 12)) none).map eS) :: da K (V.ref p49) ((eL eS) (cat ([("none" : Str), ("log" : Str), ("full" : Str), ("step" : Str), ("wide" : Str), ("a" : Str), ("ab" : Str), ("files" : Str), ("run" : Str), ("put" : Str), ("gone" : Str), ("moments" : Str)]) ([("none" : Str), ("log" : Str), ("full" : Str), ("step" : Str), ("wide" : Str), ("a" : Str), ("ab" : Str), ("files" : Str), ("run" : Str), ("put" : Str), ("gone" : Str), ("moments" : Str)]))) :: da K (V.ref E25) ((eL eS) acc24) :: bagR a_bag_here :: da K (V.ref p1) ((eL eS) ([("none" : Str), ("log" : Str), ("full" : Str), ("step" : Str), ("wide" : Str), ("a" : Str), ("ab" : Str), ("files" : Str), ("run" : Str), ("put" : Str), ("gone" : Str), ("moments" : Str)])) :: Rs) H58) => ?_)))))))
    have S60 : M (da K (V.ref p56) ((eL eS) (cutL (cat ([("none" : Str), ("log" : Str), ("full" : Str), ("step" : Str), ("wide" : Str), ("a" : Str), ("ab" : Str), ("files" : Str), ("run" : Str), ("put" : Str), ("gone" : Str), ("moments" : Str)]) ([("none" : Str), ("log" : Str), ("full" : Str), ("step" : Str), ("wide" : Str), ("a" : Str), ("ab" : Str), ("files" : Str), ("run" : Str), ("put" : Str), ("gone" : Str), ("moments" : Str)])) (some (n12 % 12)) none)) :: da K (V.ref p49) ((eL eS) (cat ([("none" : Str), ("log" : Str), ("full" : Str), ("step" : Str), ("wide" : Str), ("a" : Str), ("ab" : Str), ("files" : Str), ("run" : Str), ("put" : Str), ("gone" : Str), ("moments" : Str)]) ([("none" : Str), ("log" : Str), ("full" : Str), ("step" : Str), ("wide" : Str), ("a" : Str), ("ab" : Str), ("files" : Str), ("run" : Str), ("put" : Str), ("gone" : Str), ("moments" : Str)]))) :: da K (V.ref E25) ((eL eS) acc24) :: bagR a_bag_here :: da K (V.ref p1) ((eL eS) ([("none" : Str), ("log" : Str), ("full" : Str), ("step" : Str), ("wide" : Str), ("a" : Str), ("ab" : Str), ("files" : Str), ("run" : Str), ("put" : Str), ("gone" : Str), ("moments" : Str)])) :: Rs) H58 := acR_fixL S57
    refine g_noPart (g_part (g_var rfl (g_int (v_slN flS S60 (M.gotA S60 0 rfl) fun p62 H64 (S63 : M (acR K p62 ((cutL (cutL (cat ([("none" : Str), ("log" : Str), ("full" : Str), ("step" : Str), ("wide" : Str), ("a" : Str), ("ab" : Str), ("files" : Str), ("run" : Str), ("put" : Str), ("gone" : Str), ("moments" : Str)]) ([("none" : Str), ("log" : Str), ("full" : Str), ("step" : Str), ("wide" : Str), ("a" : Str), ("ab" : Str), ("files" : Str), ("run" : Str), ("put" : Str), ("gone" : Str), ("moments" : Str)])) (some (n12 % 12)) none) none (some a_many)).map eS) :: da K (V.ref p56) ((eL eS) (cutL (cat ([("none" : Str), ("log" : Str), ("full" : Str), ("step" : Str), ("wide" : Str), ("a" : Str), ("ab" : Str), ("files" : Str), ("run" : Str), ("put" : Str), ("gone" : Str), ("moments" : Str)]) ([("none" : Str), ("log" : Str), ("full" : Str), ("step" : Str), ("wide" : Str), ("a" : Str), ("ab" : Str), ("files" : Str), ("run" : Str), ("put" : Str), ("gone" : Str), ("moments" : Str)])) (some (n12 % 12)) none)) :: da K (V.ref p49) ((eL eS) (cat ([("none" : Str), ("log" : Str), ("full" : Str), ("step" : Str), ("wide" : Str), ("a" : Str), ("ab" : Str), ("files" : Str), ("run" : Str), ("put" : Str), ("gone" : Str), ("moments" : Str)]) ([("none" : Str), ("log" : Str), ("full" : Str), ("step" : Str), ("wide" : Str), ("a" : Str), ("ab" : Str), ("files" : Str), ("run" : Str), ("put" : Str), ("gone" : Str), ("moments" : Str)]))) :: da K (V.ref E25) ((eL eS) acc24) :: bagR a_bag_here :: da K (V.ref p1) ((eL eS) ([("none" : Str), ("log" : Str), ("full" : Str), ("step" : Str), ("wide" : Str), ("a" : Str), ("ab" : Str), ("files" : Str), ("run" : Str), ("put" : Str), ("gone" : Str), ("moments" : Str)])) :: Rs) H64) => ?_))))
    have S66 : M (da K (V.ref p62) ((eL eS) (cutL (cutL (cat ([("none" : Str), ("log" : Str), ("full" : Str), ("step" : Str), ("wide" : Str), ("a" : Str), ("ab" : Str), ("files" : Str), ("run" : Str), ("put" : Str), ("gone" : Str), ("moments" : Str)]) ([("none" : Str), ("log" : Str), ("full" : Str), ("step" : Str), ("wide" : Str), ("a" : Str), ("ab" : Str), ("files" : Str), ("run" : Str), ("put" : Str), ("gone" : Str), ("moments" : Str)])) (some (n12 % 12)) none) none (some a_many))) :: da K (V.ref p56) ((eL eS) (cutL (cat ([("none" : Str), ("log" : Str), ("full" : Str), ("step" : Str), ("wide" : Str), ("a" : Str), ("ab" : Str), ("files" : Str), ("run" : Str), ("put" : Str), ("gone" : Str), ("moments" : Str)]) ([("none" : Str), ("log" : Str), ("full" : Str), ("step" : Str), ("wide" : Str), ("a" : Str), ("ab" : Str), ("files" : Str), ("run" : Str), ("put" : Str), ("gone" : Str), ("moments" : Str)])) (some (n12 % 12)) none)) :: da K (V.ref p49) ((eL eS) (cat ([("none" : Str), ("log" : Str), ("full" : Str), ("step" : Str), ("wide" : Str), ("a" : Str), ("ab" : Str), ("files" : Str), ("run" : Str), ("put" : Str), ("gone" : Str), ("moments" : Str)]) ([("none" : Str), ("log" : Str), ("full" : Str), ("step" : Str), ("wide" : Str), ("a" : Str), ("ab" : Str), ("files" : Str), ("run" : Str), ("put" : Str), ("gone" : Str), ("moments" : Str)]))) :: da K (V.ref E25) ((eL eS) acc24) :: bagR a_bag_here :: da K (V.ref p1) ((eL eS) ([("none" : Str), ("log" : Str), ("full" : Str), ("step" : Str), ("wide" : Str), ("a" : Str), ("ab" : Str), ("files" : Str), ("run" : Str), ("put" : Str), ("gone" : Str), ("moments" : Str)])) :: Rs) H64 := acR_fixL S63
    exact hk _ _ _ hf (M.sub (.cons 0 rfl (.cons 3 rfl (.tl (.tl (.tl (.tl (.refl _))))))) S66)
  ·
    obtain ⟨h68, hf⟩ := hf
    refine g_next (g_nx (g_ret (g_lc (g_iRng1 (g_cons (g_var rfl (g_nil (v_itR h68 ?_))))))))
    refine lc_rng (K := K) (e' := eS) hf S46 (fun x72 acc69 E70 H78 kk71 N73 hl74 S77 hf hp75 hn76 => ?_) (fun E70 acc69 H119 hf S118 => ?_)
    ·
      refine g_name (g_wipe rfl (g_yes (v_ifT (g_m1 (g_c (v_isS (g_op (g_op (g_sl (g_var rfl (g_noPart (g_part (g_var rfl (g_int (v_slN flS S77 (M.gotA S77 1 rfl) fun p80 H82 (S81 : M (acR K p80 ((cutL acc24 none (some n20)).map eS) :: acR K E70 (acc69.map eS) :: da K (V.ref E25) ((eL eS) acc24) :: bagR a_bag_here :: da K (V.ref p1) ((eL eS) ([("none" : Str), ("log" : Str), ("full" : Str), ("step" : Str), ("wide" : Str), ("a" : Str), ("ab" : Str), ("files" : Str), ("run" : Str), ("put" : Str), ("gone" : Str), ("moments" : Str)])) :: Rs) H82) => ?_)))))))))))))))
      have S84 : M (da K (V.ref p80) ((eL eS) (cutL acc24 none (some n20))) :: acR K E70 (acc69.map eS) :: da K (V.ref E25) ((eL eS) acc24) :: bagR a_bag_here :: da K (V.ref p1) ((eL eS) ([("none" : Str), ("log" : Str), ("full" : Str), ("step" : Str), ("wide" : Str), ("a" : Str), ("ab" : Str), ("files" : Str), ("run" : Str), ("put" : Str), ("gone" : Str), ("moments" : Str)])) :: Rs) H82 := acR_fixL S81
      obtain ⟨h86, hf⟩ := hf
      obtain ⟨x87, h88, hf⟩ := hf
      refine g_lst (g_cons (g_op (g_var rfl (g_op (g_op (g_var rfl (g_var rfl (v_add (g_c (v_mod h86 (v_ixs h88 (g_nil (v_lsto (ds := ([x87]).map eS) S84 (EnF.consA (EnF.all fun _ => .str _) EnF.nilA) (len_ok rfl) fun p89 H91 (S90 : M (acR K p89 (([x87]).map eS) :: da K (V.ref p80) ((eL eS) (cutL acc24 none (some n20))) :: acR K E70 (acc69.map eS) :: da K (V.ref E25) ((eL eS) acc24) :: bagR a_bag_here :: da K (V.ref p1) ((eL eS) ([("none" : Str), ("log" : Str), ("full" : Str), ("step" : Str), ("wide" : Str), ("a" : Str), ("ab" : Str), ("files" : Str), ("run" : Str), ("put" : Str), ("gone" : Str), ("moments" : Str)])) :: Rs) H91) => ?_)))))))))))))
      have S93 : M (da K (V.ref p89) ((eL eS) ([x87])) :: da K (V.ref p80) ((eL eS) (cutL acc24 none (some n20))) :: acR K E70 (acc69.map eS) :: da K (V.ref E25) ((eL eS) acc24) :: bagR a_bag_here :: da K (V.ref p1) ((eL eS) ([("none" : Str), ("log" : Str), ("full" : Str), ("step" : Str), ("wide" : Str), ("a" : Str), ("ab" : Str), ("files" : Str), ("run" : Str), ("put" : Str), ("gone" : Str), ("moments" : Str)])) :: Rs) H91 := acR_fixL S90
      obtain ⟨h95, hf⟩ := hf
      refine v_catN flS S93 (M.gotA S93 1 rfl) (M.gotA S93 0 rfl) h95 fun p96 H98 (S97 : M (acR K p96 ((cat (cutL acc24 none (some n20)) ([x87])).map eS) :: da K (V.ref p89) ((eL eS) ([x87])) :: da K (V.ref p80) ((eL eS) (cutL acc24 none (some n20))) :: acR K E70 (acc69.map eS) :: da K (V.ref E25) ((eL eS) acc24) :: bagR a_bag_here :: da K (V.ref p1) ((eL eS) ([("none" : Str), ("log" : Str), ("full" : Str), ("step" : Str), ("wide" : Str), ("a" : Str), ("ab" : Str), ("files" : Str), ("run" : Str), ("put" : Str), ("gone" : Str), ("moments" : Str)])) :: Rs) H98) => ?_
      have S100 : M (da K (V.ref p96) ((eL eS) (cat (cutL acc24 none (some n20)) ([x87]))) :: da K (V.ref p89) ((eL eS) ([x87])) :: da K (V.ref p80) ((eL eS) (cutL acc24 none (some n20))) :: acR K E70 (acc69.map eS) :: da K (V.ref E25) ((eL eS) acc24) :: bagR a_bag_here :: da K (V.ref p1) ((eL eS) ([("none" : Str), ("log" : Str), ("full" : Str), ("step" : Str), ("wide" : Str), ("a" : Str), ("ab" : Str), ("files" : Str), ("run" : Str), ("put" : Str), ("gone" : Str), ("moments" : Str)])) :: Rs) H98 := acR_fixL S97
      refine g_sl (g_var rfl (g_part (g_op (g_var rfl (g_c (v_add (g_int (g_noPart (v_slN flS S100 (M.gotA S100 4 rfl) fun p102 H104 (S103 : M (acR K p102 ((cutL acc24 (some (n20 + 1)) none).map eS) :: da K (V.ref p96) ((eL eS) (cat (cutL acc24 none (some n20)) ([x87]))) :: da K (V.ref p89) ((eL eS) ([x87])) :: da K (V.ref p80) ((eL eS) (cutL acc24 none (some n20))) :: acR K E70 (acc69.map eS) :: da K (V.ref E25) ((eL eS) acc24) :: bagR a_bag_here :: da K (V.ref p1) ((eL eS) ([("none" : Str), ("log" : Str), ("full" : Str), ("step" : Str), ("wide" : Str), ("a" : Str), ("ab" : Str), ("files" : Str), ("run" : Str), ("put" : Str), ("gone" : Str), ("moments" : Str)])) :: Rs) H104) => ?_)))))))))
      have S106 : M (da K (V.ref p102) ((eL eS) (cutL acc24 (some (n20 + 1)) none)) :: da K (V.ref p96) ((eL eS) (cat (cutL acc24 none (some n20)) ([x87]))) :: da K (V.ref p89) ((eL eS) ([x87])) :: da K (V.ref p80) ((eL eS) (cutL acc24 none (some n20))) :: acR K E70 (acc69.map eS) :: da K (V.ref E25) ((eL eS) acc24) :: bagR a_bag_here :: da K (V.ref p1) ((eL eS) ([("none" : Str), ("log" : Str), ("full" : Str), ("step" : Str), ("wide" : Str), ("a" : Str), ("ab" : Str), ("files" : Str), ("run" : Str), ("put" : Str), ("gone" : Str), ("moments" : Str)])) :: Rs) H104 := acR_fixL S103
      obtain ⟨h108, hf⟩ := hf
      refine v_catN flS S106 (M.gotA S106 1 rfl) (M.gotA S106 0 rfl) h108 fun p109 H111 (S110 : M (acR K p109 ((cat (cat (cutL acc24 none (some n20)) ([x87])) (cutL acc24 (some (n20 + 1)) none)).map eS) :: da K (V.ref p102) ((eL eS) (cutL acc24 (some (n20 + 1)) none)) :: da K (V.ref p96) ((eL eS) (cat (cutL acc24 none (some n20)) ([x87]))) :: da K (V.ref p89) ((eL eS) ([x87])) :: da K (V.ref p80) ((eL eS) (cutL acc24 none (some n20))) :: acR K E70 (acc69.map eS) :: da K (V.ref E25) ((eL eS) acc24) :: bagR a_bag_here :: da K (V.ref p1) ((eL eS) ([("none" : Str), ("log" : Str), ("full" : Str), ("step" : Str), ("wide" : Str), ("a" : Str), ("ab" : Str), ("files" : Str), ("run" : Str), ("put" : Str), ("gone" : Str), ("moments" : Str)])) :: Rs) H111) => ?_
      have S113 : M (da K (V.ref p109) ((eL eS) (cat (cat (cutL acc24 none (some n20)) ([x87])) (cutL acc24 (some (n20 + 1)) none))) :: da K (V.ref p102) ((eL eS) (cutL acc24 (some (n20 + 1)) none)) :: da K (V.ref p96) ((eL eS) (cat (cutL acc24 none (some n20)) ([x87]))) :: da K (V.ref p89) ((eL eS) ([x87])) :: da K (V.ref p80) ((eL eS) (cutL acc24 none (some n20))) :: acR K E70 (acc69.map eS) :: da K (V.ref E25) ((eL eS) acc24) :: bagR a_bag_here :: da K (V.ref p1) ((eL eS) ([("none" : Str), ("log" : Str), ("full" : Str), ("step" : Str), ("wide" : Str), ("a" : Str), ("ab" : Str), ("files" : Str), ("run" : Str), ("put" : Str), ("gone" : Str), ("moments" : Str)])) :: Rs) H111 := acR_fixL S110
      obtain ⟨h115, hf⟩ := hf
      refine v_join (M.gotA S113 0 rfl) h115 (acR_put S113 5 rfl (EnF.all fun _ => .str _) hl74 fun H117 (S116 : M (acR K E70 (acc69.map eS ++ [eS (Txt.join ("" : Str) (cat (cat (cutL acc24 none (some n20)) ([x87])) (cutL acc24 (some (n20 + 1)) none)))]) :: da K (V.ref p109) ((eL eS) (cat (cat (cutL acc24 none (some n20)) ([x87])) (cutL acc24 (some (n20 + 1)) none))) :: da K (V.ref p102) ((eL eS) (cutL acc24 (some (n20 + 1)) none)) :: da K (V.ref p96) ((eL eS) (cat (cutL acc24 none (some n20)) ([x87]))) :: da K (V.ref p89) ((eL eS) ([x87])) :: da K (V.ref p80) ((eL eS) (cutL acc24 none (some n20))) :: da K (V.ref E25) ((eL eS) acc24) :: bagR a_bag_here :: da K (V.ref p1) ((eL eS) ([("none" : Str), ("log" : Str), ("full" : Str), ("step" : Str), ("wide" : Str), ("a" : Str), ("ab" : Str), ("files" : Str), ("run" : Str), ("put" : Str), ("gone" : Str), ("moments" : Str)])) :: Rs) H117) => ?_)
      exact hp75 _ _ hf (M.sub (.cons 0 rfl (.cons 5 rfl (.cons 5 rfl (.cons 5 rfl (.tl (.tl (.tl (.tl (.tl (.refl _)))))))))) S116)
    have S121 : M (da K (V.ref E70) ((eL eS) acc69) :: da K (V.ref E25) ((eL eS) acc24) :: bagR a_bag_here :: da K (V.ref p1) ((eL eS) ([("none" : Str), ("log" : Str), ("full" : Str), ("step" : Str), ("wide" : Str), ("a" : Str), ("ab" : Str), ("files" : Str), ("run" : Str), ("put" : Str), ("gone" : Str), ("moments" : Str)])) :: Rs) H119 := acR_fixL S118
    exact hk _ _ _ hf (M.sub (.cons 0 rfl (.cons 1 rfl (.tl (.tl (.refl _))))) S121)
def p_l_list  (P : (List Int) → Prop) : Prop := takeD 4 fun n2 => if (decide (n2 = 0)) = true then (takeD 4 fun n6 => ((-(2 ^ 62) : Int) ≤ n6 ∧ n6 < (2 ^ 62 : Int)) ∧ (rng n6).length ≤ 100000 ∧ lcD (fun (x13 : Int) (k20 : Option Int → Prop) => takeD 2 fun n26 => ∃ x31, atI ([0, 1] : List Int) n26 = some x31 ∧ k20 (some x31)) (rng n6) [] fun acc10 => P acc10) else (if (decide (n2 = 1)) = true then (takeD 5 fun n41 => ((-(2 ^ 62) : Int) ≤ n41 ∧ n41 < (2 ^ 62 : Int)) ∧ (rng n41).length ≤ 100000 ∧ lcD (fun (x48 : Int) (k55 : Option Int → Prop) => takeB 1000000000000000000000000000000 fun n57 => k55 (some (n57 - 100000000000000000000000000000))) (rng n41) [] fun acc45 => P acc45) else (takeD 3 fun n68 => takeD 61 fun n72 => takeD 2 fun n80 => ∃ x85, atI ([n68, n72]) n80 = some x85 ∧ ((-(2 ^ 62) : Int) ≤ x85 ∧ x85 < (2 ^ 62 : Int)) ∧ (rng x85).length ≤ 100000 ∧ lcD (fun (x91 : Int) (k98 : Option Int → Prop) => takeD 3 fun n100 => k98 (some n100)) (rng x85) [] fun acc88 => P acc88))
def sp_l_list (K : PySem.W.Frag) : Sp := fun vs H Q _ => ∃ (Rs : List Res) (a_bag_here : Addr) (P : (List Int) → Prop), vs = [(V.ref a_bag_here)] ∧ M (bagR a_bag_here :: Rs) H ∧ p_l_list P ∧ ∀ (r : (List Int)) (v : V) H', P r → M (da K v ((eL eI) r) :: bagR a_bag_here :: Rs) H' → Q v H'
theorem len_l_list {K : PySem.W.Frag} (vs : List V) (H : Hp) (Q : VK) (E : XK) (h : sp_l_list K vs H Q E) : vs.length = 1 := by
  obtain ⟨Rs, a_bag_here, P, rfl, _⟩ := h
  rfl
abbrev t_l_list_4 (K : PySem.W.Frag) : TS := (tSeq (tIfS (tTest (tOp (uEq K) (tVar 1) (tC (.int 1)))) (tRet (tLc (iRng1 (tCons (tCall (sp_l_take K) [] E0 (tCons (tVar 0) (tCons (tC (.int 5)) tNil))) tNil)) (gName 2) tYes (tOp uSub (tCall (sp_l_take K) [] E0 (tCons (tVar 0) (tCons (tOp uPow (tC (.int 10)) (tC (.int 30))) tNil))) (tOp uPow (tC (.int 10)) (tC (.int 29)))) [2])) tNext)
  (tRet (tLc (iRng1 (tCons (tOp (uIx K) (tLst (tCons (tCall (sp_l_take K) [] E0 (tCons (tVar 0) (tCons (tC (.int 3)) tNil))) (tCons (tCall (sp_l_take K) [] E0 (tCons (tVar 0) (tCons (tC (.int 61)) tNil))) tNil))) (tCall (sp_l_take K) [] E0 (tCons (tVar 0) (tCons (tC (.int 2)) tNil)))) tNil)) (gName 2) tYes (tCall (sp_l_take K) [] E0 (tCons (tVar 0) (tCons (tC (.int 3)) tNil))) [2])))
abbrev t_l_list_2 (K : PySem.W.Frag) : TS := (tSeq (tIfS (tTest (tOp (uEq K) (tVar 1) (tC (.int 0)))) (tRet (tLc (iRng1 (tCons (tCall (sp_l_take K) [] E0 (tCons (tVar 0) (tCons (tC (.int 4)) tNil))) tNil)) (gName 2) tYes (tOp (uIx K) (tLst (tCons (tC (.int 0)) (tCons (tC (.int 1)) tNil))) (tCall (sp_l_take K) [] E0 (tCons (tVar 0) (tCons (tC (.int 2)) tNil)))) [2])) tNext)
  (t_l_list_4 K))
abbrev t_l_list_1 (K : PySem.W.Frag) : TS := (tSeq (tAsg (tCall (sp_l_take K) [] E0 (tCons (tVar 0) (tCons (tC (.int 4)) tNil))) (gName 1))
  (t_l_list_2 K))
abbrev t_l_list (K : PySem.W.Frag) : TS := (t_l_list_1 K)
theorem pure_l_list {K : PySem.W.Frag} (vs : List V) (H : Hp) (Q : VK) (E : XK) (h : sp_l_list K vs H Q E) : t_l_list K { nx := fun _ H' => Q .non H', rt := Q } (L2.start ["_law_bag_here", "_law_pick", "_law_k"] vs) H := by
  obtain ⟨Rs, a_bag_here, P, rfl, S0, hf, hk⟩ := h
  show t_l_list K _ [some (V.ref a_bag_here), none, none] H
  refine g_seq (g_asg (g_call (g_cons (g_var rfl (g_cons (g_c (g_nil ?_)))))))
  obtain ⟨h1, hf⟩ := hf
  refine u_take (S0.at 0 rfl) h1 fun n2 H4 n2l n2u (S3 : M (bagR a_bag_here :: Rs) H4) => ?_
  replace hf := hf n2 n2l n2u
  refine g_nx ?_
  refine g_seq (g_if (g_test (g_op (g_var rfl (g_c (v_eqI (g_bl (v_iff hf (fun _ hf => ?_) (fun _ hf => ?_)))))))))
  ·
    refine g_ret (g_lc (g_iRng1 (g_cons (g_call (g_cons (g_var rfl (g_cons (g_c (g_nil ?_)))))))))
    obtain ⟨h5, hf⟩ := hf
    refine u_take (S3.at 0 rfl) h5 fun n6 H8 n6l n6u (S7 : M (bagR a_bag_here :: Rs) H8) => ?_
    replace hf := hf n6 n6l n6u
    obtain ⟨h9, hf⟩ := hf
    refine g_nil (v_itR h9 ?_)
    refine lc_rng (K := K) (e' := eI) hf S7 (fun x13 acc10 E11 H19 kk12 N14 hl15 S18 hf hp16 hn17 => ?_) (fun E11 acc10 H36 hf S35 => ?_)
    ·
      refine g_name (g_wipe rfl (g_yes (v_ifT (g_op (g_lst (g_cons (g_c (g_cons (g_c (g_nil (v_lsto (ds := ([0, 1] : List Int).map eI) S18 (EnF.consA (EnF.all fun _ => .int _) (EnF.consA (EnF.all fun _ => .int _) EnF.nilA)) (len_ok rfl) fun p21 H23 (S22 : M (acR K p21 (([0, 1] : List Int).map eI) :: acR K E11 (acc10.map eI) :: bagR a_bag_here :: Rs) H23) => ?_)))))))))))
      refine g_call (g_cons (g_var rfl (g_cons (g_c (g_nil ?_)))))
      obtain ⟨h25, hf⟩ := hf
      refine u_take (S22.at 2 rfl) h25 fun n26 H28 n26l n26u (S27 : M (bagR a_bag_here :: acR K p21 (([0, 1] : List Int).map eI) :: acR K E11 (acc10.map eI) :: Rs) H28) => ?_
      replace hf := hf n26 n26l n26u
      have S29 : M (da K (V.ref p21) ((eL eI) ([0, 1] : List Int)) :: bagR a_bag_here :: acR K E11 (acc10.map eI) :: Rs) H28 := acR_fixL (S27.at 1 rfl)
      obtain ⟨x31, h32, hf⟩ := hf
      refine v_ixN flI (M.gotA S29 0 rfl) h32 (acR_put S29 2 rfl (EnF.all fun _ => .int _) hl15 fun H34 (S33 : M (acR K E11 (acc10.map eI ++ [eI x31]) :: da K (V.ref p21) ((eL eI) ([0, 1] : List Int)) :: bagR a_bag_here :: Rs) H34) => ?_)
      exact hp16 _ _ hf (M.sub (.cons 0 rfl (.cons 1 rfl (.tl (.refl _)))) S33)
    have S38 : M (da K (V.ref E11) ((eL eI) acc10) :: bagR a_bag_here :: Rs) H36 := acR_fixL S35
    exact hk _ _ _ hf (M.sub (.cons 0 rfl (.cons 0 rfl (.refl _))) S38)
  ·
    refine g_next (g_nx (g_seq (g_if (g_test (g_op (g_var rfl (g_c (v_eqI (g_bl (v_iff hf (fun _ hf => ?_) (fun _ hf => ?_)))))))))))
    ·
      refine g_ret (g_lc (g_iRng1 (g_cons (g_call (g_cons (g_var rfl (g_cons (g_c (g_nil ?_)))))))))
      obtain ⟨h40, hf⟩ := hf
      refine u_take (S3.at 0 rfl) h40 fun n41 H43 n41l n41u (S42 : M (bagR a_bag_here :: Rs) H43) => ?_
      replace hf := hf n41 n41l n41u
      obtain ⟨h44, hf⟩ := hf
      refine g_nil (v_itR h44 ?_)
      refine lc_rng (K := K) (e' := eI) hf S42 (fun x48 acc45 E46 H54 kk47 N49 hl50 S53 hf hp51 hn52 => ?_) (fun E46 acc45 H63 hf S62 => ?_)
      ·
        refine g_name (g_wipe rfl (g_yes (v_ifT (g_op (g_call (g_cons (g_var rfl (g_cons (g_op (g_c (g_c (v_powc (n := 1000000000000000000000000000000) (by decide) (by decide) (g_nil ?_)))))))))))))
        obtain ⟨h56, hf⟩ := hf
        refine u_takeB (S53.at 1 rfl) h56 fun n57 H59 n57l n57u (S58 : M (bagR a_bag_here :: acR K E46 (acc45.map eI) :: Rs) H59) => ?_
        replace hf := hf n57 n57l n57u
        refine g_op (g_c (g_c (v_powc (n := 100000000000000000000000000000) (by decide) (by decide) (v_sub (acR_put S58 1 rfl (EnF.all fun _ => .int _) hl50 fun H61 (S60 : M (acR K E46 (acc45.map eI ++ [eI (n57 - 100000000000000000000000000000)]) :: bagR a_bag_here :: Rs) H61) => ?_)))))
        exact hp51 _ _ hf (M.sub (.cons 0 rfl (.cons 0 rfl (.refl _))) S60)
      have S65 : M (da K (V.ref E46) ((eL eI) acc45) :: bagR a_bag_here :: Rs) H63 := acR_fixL S62
      exact hk _ _ _ hf (M.sub (.cons 0 rfl (.cons 0 rfl (.refl _))) S65)
    ·
      refine g_next (g_nx (g_ret (g_lc (g_iRng1 (g_cons (g_op (g_lst (g_cons (g_call (g_cons (g_var rfl (g_cons (g_c (g_nil ?_))))))))))))))
      obtain ⟨h67, hf⟩ := hf
      refine u_take (S3.at 0 rfl) h67 fun n68 H70 n68l n68u (S69 : M (bagR a_bag_here :: Rs) H70) => ?_
      replace hf := hf n68 n68l n68u
      refine g_cons (g_call (g_cons (g_var rfl (g_cons (g_c (g_nil ?_))))))
      obtain ⟨h71, hf⟩ := hf
      refine u_take (S69.at 0 rfl) h71 fun n72 H74 n72l n72u (S73 : M (bagR a_bag_here :: Rs) H74) => ?_
      replace hf := hf n72 n72l n72u
      refine g_nil (v_lsto (ds := ([n68, n72]).map eI) S73 (EnF.consA (EnF.all fun _ => .int _) (EnF.consA (EnF.all fun _ => .int _) EnF.nilA)) (len_ok rfl) fun p75 H77 (S76 : M (acR K p75 (([n68, n72]).map eI) :: bagR a_bag_here :: Rs) H77) => ?_)
      refine g_call (g_cons (g_var rfl (g_cons (g_c (g_nil ?_)))))
      obtain ⟨h79, hf⟩ := hf
      refine u_take (S76.at 1 rfl) h79 fun n80 H82 n80l n80u (S81 : M (bagR a_bag_here :: acR K p75 (([n68, n72]).map eI) :: Rs) H82) => ?_
      replace hf := hf n80 n80l n80u
      have S83 : M (da K (V.ref p75) ((eL eI) ([n68, n72])) :: bagR a_bag_here :: Rs) H82 := acR_fixL (S81.at 1 rfl)
      obtain ⟨x85, h86, hf⟩ := hf
      obtain ⟨h87, hf⟩ := hf
      refine v_ixN flI (M.gotA S83 0 rfl) h86 (g_nil (v_itR h87 ?_))
      refine lc_rng (K := K) (e' := eI) hf S83 (fun x91 acc88 E89 H97 kk90 N92 hl93 S96 hf hp94 hn95 => ?_) (fun E89 acc88 H106 hf S105 => ?_)
      ·
        refine g_name (g_wipe rfl (g_yes (v_ifT (g_call (g_cons (g_var rfl (g_cons (g_c (g_nil ?_)))))))))
        obtain ⟨h99, hf⟩ := hf
        refine u_take (S96.at 2 rfl) h99 fun n100 H102 n100l n100u (S101 : M (bagR a_bag_here :: acR K E89 (acc88.map eI) :: da K (V.ref p75) ((eL eI) ([n68, n72])) :: Rs) H102) => ?_
        replace hf := hf n100 n100l n100u
        refine acR_put S101 1 rfl (EnF.all fun _ => .int _) hl93 fun H104 (S103 : M (acR K E89 (acc88.map eI ++ [eI n100]) :: bagR a_bag_here :: da K (V.ref p75) ((eL eI) ([n68, n72])) :: Rs) H104) => ?_
        exact hp94 _ _ hf (M.sub (.cons 0 rfl (.cons 1 rfl (.cons 0 rfl (.refl _)))) S103)
      have S108 : M (da K (V.ref E89) ((eL eI) acc88) :: da K (V.ref p75) ((eL eI) ([n68, n72])) :: bagR a_bag_here :: Rs) H106 := acR_fixL S105
      exact hk _ _ _ hf (M.sub (.cons 0 rfl (.cons 1 rfl (.tl (.refl _)))) S108)
def p_l_pair_of_dicts (a_names_here : (List Str)) (P : ((List (Str × (List Int))) × (List (Str × (List Int)))) → Prop) : Prop := forD (fun (x12 : Str) (s9 : (List (Str × (List Int))) × (List (Str × (List Int)))) (k10 : ((List (Str × (List Int))) × (List (Str × (List Int)))) → Prop) => takeD 6 fun n21 => p_l_list fun x24 => jn (β := (List (Str × (List Int)))) (fun k30 => if (decide (n21 < 4)) = true then ((s9.1).length < 100000 ∧ k30 (pk s9.1 x12 x24)) else (k30 s9.1)) fun s29 => jn (β := (List (Str × (List Int)))) (fun k42 => if (decide (n21 ∈ ([0, 1] : List Int))) = true then ((s9.2).length < 100000 ∧ k42 (pk s9.2 x12 x24)) else (k42 s9.2)) fun s41 => jn (β := (List (Str × (List Int)))) (fun k64 => if (decide (n21 = 2)) = true then (p_l_list fun x69 => (s41).length < 100000 ∧ k64 (pk s41 x12 x69)) else (k64 s41)) fun s63 => if (decide (n21 = 4)) = true then ((s63).length < 100000 ∧ k10 (s29, (pk s63 x12 x24))) else (k10 (s29, s63))) a_names_here (([] : (List (Str × (List Int)))), ([] : (List (Str × (List Int))))) fun s9 => P (s9.1, s9.2)
def sp_l_pair_of_dicts (K : PySem.W.Frag) : Sp := fun vs H Q _ => ∃ (Rs : List Res) (a_bag_here : Addr) (v_a_names_here : V) (a_names_here : (List Str)) (P : ((List (Str × (List Int))) × (List (Str × (List Int)))) → Prop), vs = [(V.ref a_bag_here), v_a_names_here] ∧ M (bagR a_bag_here :: da K v_a_names_here ((eL eS) a_names_here) :: Rs) H ∧ p_l_pair_of_dicts a_names_here P ∧ ∀ (r : ((List (Str × (List Int))) × (List (Str × (List Int))))) (v : V) H', P r → M (da K v ((eP (eD iS (eL eI)) (eD iS (eL eI))) r) :: bagR a_bag_here :: Rs) H' → Q v H'
theorem len_l_pair_of_dicts {K : PySem.W.Frag} (vs : List V) (H : Hp) (Q : VK) (E : XK) (h : sp_l_pair_of_dicts K vs H Q E) : vs.length = 2 := by
  obtain ⟨Rs, a_bag_here, v_a_names_here, a_names_here, P, rfl, _⟩ := h
  rfl
abbrev t_l_pair_of_dicts_12 (K : PySem.W.Frag) : TS := (tIfS (tTest (tOp (uEq K) (tVar 5) (tC (.int 4)))) (tAsg (tCB (rListOf K) (tCons (tVar 6) tNil)) (gSub (tVar 3) (tVar 4) uSet)) tNext)
abbrev t_l_pair_of_dicts_10 (K : PySem.W.Frag) : TS := (tSeq (tIfS (tTest (tOp (uEq K) (tVar 5) (tC (.int 2)))) (tAsg (tCall (sp_l_list K) [] E0 (tCons (tVar 0) tNil)) (gSub (tVar 3) (tVar 4) uSet)) tNext)
  (t_l_pair_of_dicts_12 K))
abbrev t_l_pair_of_dicts_8 (K : PySem.W.Frag) : TS := (tSeq (tIfS (tTest (tOp (uIn K) (tVar 5) (tTup (tCons (tC (.int 0)) (tCons (tC (.int 1)) tNil))))) (tAsg (tCB (rListOf K) (tCons (tVar 6) tNil)) (gSub (tVar 3) (tVar 4) uSet)) tNext)
  (t_l_pair_of_dicts_10 K))
abbrev t_l_pair_of_dicts_6 (K : PySem.W.Frag) : TS := (tSeq (tIfS (tTest (tOp uLt (tVar 5) (tC (.int 4)))) (tAsg (tVar 6) (gSub (tVar 2) (tVar 4) uSet)) tNext)
  (t_l_pair_of_dicts_8 K))
abbrev t_l_pair_of_dicts_5 (K : PySem.W.Frag) : TS := (tSeq (tAsg (tCall (sp_l_list K) [] E0 (tCons (tVar 0) tNil)) (gName 6))
  (t_l_pair_of_dicts_6 K))
abbrev t_l_pair_of_dicts_4 (K : PySem.W.Frag) : TS := (tSeq (tAsg (tCall (sp_l_take K) [] E0 (tCons (tVar 0) (tCons (tC (.int 6)) tNil))) (gName 5))
  (t_l_pair_of_dicts_5 K))
abbrev t_l_pair_of_dicts_3 (K : PySem.W.Frag) : TS := (tSeq (tFor (iList K (tVar 1)) (gName 4) (t_l_pair_of_dicts_4 K))
  (tRet (tTup (tCons (tFzE (tVar 2)) (tCons (tFzE (tVar 3)) tNil)))))
abbrev t_l_pair_of_dicts_2 (K : PySem.W.Frag) : TS := (tSeq (tAsg tDNewK (gName 3))
  (t_l_pair_of_dicts_3 K))
abbrev t_l_pair_of_dicts_1 (K : PySem.W.Frag) : TS := (tSeq (tAsg tDNewK (gName 2))
  (t_l_pair_of_dicts_2 K))
abbrev t_l_pair_of_dicts (K : PySem.W.Frag) : TS := (t_l_pair_of_dicts_1 K)
theorem pure_l_pair_of_dicts {K : PySem.W.Frag} (vs : List V) (H : Hp) (Q : VK) (E : XK) (h : sp_l_pair_of_dicts K vs H Q E) : t_l_pair_of_dicts K { nx := fun _ H' => Q .non H', rt := Q } (L2.start ["_law_bag_here", "_law_names_here", "_law_elder", "_law_newer", "_law_name", "_law_pick", "_law_value"] vs) H := by
  obtain ⟨Rs, a_bag_here, v_a_names_here, a_names_here, P, rfl, S0, hf, hk⟩ := h
  show t_l_pair_of_dicts K _ [some (V.ref a_bag_here), some v_a_names_here, none, none, none, none, none] H
  refine g_seq (g_asg (v_dnewo S0 fun p1 H3 (S2 : M (adR K iS (eL eI) p1 ([] : (List (Str × (List Int)))) :: bagR a_bag_here :: da K v_a_names_here ((eL eS) a_names_here) :: Rs) H3) => ?_))
  refine g_nx ?_
  refine g_seq (g_asg (v_dnewo S2 fun p5 H7 (S6 : M (adR K iS (eL eI) p5 ([] : (List (Str × (List Int)))) :: adR K iS (eL eI) p1 ([] : (List (Str × (List Int)))) :: bagR a_bag_here :: da K v_a_names_here ((eL eS) a_names_here) :: Rs) H7) => ?_))
  refine g_nx ?_
  refine g_seq (g_for (g_iList (g_var rfl ?_)))
  refine for_N flS (K := K) (β := (List (Str × (List Int))) × (List (Str × (List Int)))) hf (fun (s9 : (List (Str × (List Int))) × (List (Str × (List Int)))) σ H' => ∃ (o15 : Option V) (o16 : Option V) (o17 : Option V), σ = [some (V.ref a_bag_here), some v_a_names_here, some (V.ref p1), some (V.ref p5), o15, o16, o17] ∧ M (adR K iS (eL eI) p1 s9.1 :: adR K iS (eL eI) p5 s9.2 :: bagR a_bag_here :: da K v_a_names_here ((eL eS) a_names_here) :: Rs) H') ⟨_, _, _, rfl, (M.sub (.cons 1 rfl (.cons 0 rfl (.cons 0 rfl (.cons 0 rfl (.refl _))))) S6)⟩ (fun _ _ _ h => by obtain ⟨_, _, _, _, S⟩ := h; exact S.gotA 3 rfl) ?_ ?_
  ·
    rintro x12 s9 _ H19 kk11 ⟨o15, o16, o17, rfl, S18⟩ hf
    refine g_name (g_seq (g_asg (g_call (g_cons (g_var rfl (g_cons (g_c (g_nil ?_))))))))
    obtain ⟨h20, hf⟩ := hf
    refine u_take (S18.at 2 rfl) h20 fun n21 H23 n21l n21u (S22 : M (bagR a_bag_here :: adR K iS (eL eI) p1 s9.1 :: adR K iS (eL eI) p5 s9.2 :: da K v_a_names_here ((eL eS) a_names_here) :: Rs) H23) => ?_
    replace hf := hf n21 n21l n21u
    refine g_nx ?_
    refine g_seq (g_asg (g_call (g_cons (g_var rfl (g_nil (⟨_, _, _, rfl, (M.at S22 0 rfl), hf, fun x24 u27 H26 hf (S25 : M (da K u27 ((eL eI) x24) :: bagR a_bag_here :: adR K iS (eL eI) p1 s9.1 :: adR K iS (eL eI) p5 s9.2 :: da K v_a_names_here ((eL eS) a_names_here) :: Rs) H26) => ?_⟩))))))
    refine g_nx ?_
    refine jn_cut (β := (List (Str × (List Int)))) hf (fun (s29 : (List (Str × (List Int)))) σ H' => σ = [some (V.ref a_bag_here), some v_a_names_here, some (V.ref p1), some (V.ref p5), some (V.str x12), some (V.int n21), some u27] ∧ M (adR K iS (eL eI) p1 s29 :: da K u27 ((eL eI) x24) :: bagR a_bag_here :: adR K iS (eL eI) p5 s9.2 :: da K v_a_names_here ((eL eS) a_names_here) :: Rs) H') (fun kk31 N32 hN33 hf => ?_) ?_
    ·
      refine g_if (g_test (g_op (g_var rfl (g_c (v_lt (g_bl (v_iff hf (fun _ hf => ?_) (fun _ hf => ?_))))))))
      ·
        refine g_asgX (g_var rfl (g_sub (g_var rfl (g_var rfl ?_))))
        obtain ⟨h35, hf⟩ := hf
        refine v_putdS (e := (eL eI)) (x := x24) S25 2 rfl (EnF.at 0 rfl) h35 fun H37 (S36 : M (adR K iS (eL eI) p1 (pk s9.1 x12 x24) :: da K u27 ((eL eI) x24) :: bagR a_bag_here :: adR K iS (eL eI) p5 s9.2 :: da K v_a_names_here ((eL eS) a_names_here) :: Rs) H37) => ?_
        exact hN33 _ _ _ hf ⟨rfl, (M.sub (.cons 0 rfl (.cons 0 rfl (.cons 0 rfl (.cons 0 rfl (.cons 0 rfl (.refl _)))))) S36)⟩
      ·
        refine g_next ?_
        exact hN33 _ _ _ hf ⟨rfl, (M.sub (.cons 2 rfl (.cons 0 rfl (.cons 0 rfl (.cons 0 rfl (.cons 0 rfl (.refl _)))))) S25)⟩
    rintro s29 _ H40 hf ⟨rfl, S39⟩
    refine jn_cut (β := (List (Str × (List Int)))) hf (fun (s41 : (List (Str × (List Int)))) σ H' => σ = [some (V.ref a_bag_here), some v_a_names_here, some (V.ref p1), some (V.ref p5), some (V.str x12), some (V.int n21), some u27] ∧ M (adR K iS (eL eI) p5 s41 :: adR K iS (eL eI) p1 s29 :: da K u27 ((eL eI) x24) :: bagR a_bag_here :: da K v_a_names_here ((eL eS) a_names_here) :: Rs) H') (fun kk43 N44 hN45 hf => ?_) ?_
    ·
      refine g_if (g_test (g_op (g_var rfl (g_tup (g_cons (g_c (g_cons (g_c (g_nil (v_tupq S39 (EnF.consA (EnF.all fun _ => .int _) (EnF.consA (EnF.all fun _ => .int _) EnF.nilA)) (len_ok rfl) fun p47 H49 (S48 : M (da K (V.ref p47) ((eV eI) [0, 1]) :: adR K iS (eL eI) p1 s29 :: da K u27 ((eL eI) x24) :: bagR a_bag_here :: adR K iS (eL eI) p5 s9.2 :: da K v_a_names_here ((eL eS) a_names_here) :: Rs) H49) => ?_))))))))))
      refine v_inVI (M.gotA S48 0 rfl) (g_bl (v_iff hf (fun _ hf => ?_) (fun _ hf => ?_)))
      ·
        refine g_asgX (g_cb (g_cons (g_var rfl (g_nil (v_liN flI S48 (M.gotA S48 2 rfl) fun p51 H53 (S52 : M (acR K p51 (x24.map eI) :: da K (V.ref p47) ((eV eI) [0, 1]) :: adR K iS (eL eI) p1 s29 :: da K u27 ((eL eI) x24) :: bagR a_bag_here :: adR K iS (eL eI) p5 s9.2 :: da K v_a_names_here ((eL eS) a_names_here) :: Rs) H53) => ?_)))))
        have S55 : M (da K (V.ref p51) ((eL eI) x24) :: da K (V.ref p47) ((eV eI) [0, 1]) :: adR K iS (eL eI) p1 s29 :: da K u27 ((eL eI) x24) :: bagR a_bag_here :: adR K iS (eL eI) p5 s9.2 :: da K v_a_names_here ((eL eS) a_names_here) :: Rs) H53 := acR_fixL S52
        refine g_sub (g_var rfl (g_var rfl ?_))
        obtain ⟨h57, hf⟩ := hf
        refine v_putdS (e := (eL eI)) (x := x24) S55 5 rfl (EnF.at 0 rfl) h57 fun H59 (S58 : M (adR K iS (eL eI) p5 (pk s9.2 x12 x24) :: da K (V.ref p51) ((eL eI) x24) :: da K (V.ref p47) ((eV eI) [0, 1]) :: adR K iS (eL eI) p1 s29 :: da K u27 ((eL eI) x24) :: bagR a_bag_here :: da K v_a_names_here ((eL eS) a_names_here) :: Rs) H59) => ?_
        exact hN45 _ _ _ hf ⟨rfl, (M.sub (.cons 0 rfl (.cons 2 rfl (.cons 2 rfl (.cons 2 rfl (.cons 2 rfl (.tl (.tl (.refl _)))))))) S58)⟩
      ·
        refine g_next ?_
        exact hN45 _ _ _ hf ⟨rfl, (M.sub (.cons 4 rfl (.cons 1 rfl (.cons 1 rfl (.cons 1 rfl (.cons 1 rfl (.tl (.refl _))))))) S48)⟩
    rintro s41 _ H62 hf ⟨rfl, S61⟩
    refine jn_cut (β := (List (Str × (List Int)))) hf (fun (s63 : (List (Str × (List Int)))) σ H' => σ = [some (V.ref a_bag_here), some v_a_names_here, some (V.ref p1), some (V.ref p5), some (V.str x12), some (V.int n21), some u27] ∧ M (adR K iS (eL eI) p5 s63 :: adR K iS (eL eI) p1 s29 :: da K u27 ((eL eI) x24) :: bagR a_bag_here :: da K v_a_names_here ((eL eS) a_names_here) :: Rs) H') (fun kk65 N66 hN67 hf => ?_) ?_
    ·
      refine g_if (g_test (g_op (g_var rfl (g_c (v_eqI (g_bl (v_iff hf (fun _ hf => ?_) (fun _ hf => ?_))))))))
      ·
        refine g_asgX (g_call (g_cons (g_var rfl (g_nil (⟨_, _, _, rfl, (M.at S61 3 rfl), hf, fun x69 u72 H71 hf (S70 : M (da K u72 ((eL eI) x69) :: bagR a_bag_here :: adR K iS (eL eI) p5 s41 :: adR K iS (eL eI) p1 s29 :: da K u27 ((eL eI) x24) :: da K v_a_names_here ((eL eS) a_names_here) :: Rs) H71) => ?_⟩)))))
        refine g_sub (g_var rfl (g_var rfl ?_))
        obtain ⟨h74, hf⟩ := hf
        refine v_putdS (e := (eL eI)) (x := x69) S70 2 rfl (EnF.at 0 rfl) h74 fun H76 (S75 : M (adR K iS (eL eI) p5 (pk s41 x12 x69) :: da K u72 ((eL eI) x69) :: bagR a_bag_here :: adR K iS (eL eI) p1 s29 :: da K u27 ((eL eI) x24) :: da K v_a_names_here ((eL eS) a_names_here) :: Rs) H76) => ?_
        exact hN67 _ _ _ hf ⟨rfl, (M.sub (.cons 0 rfl (.cons 2 rfl (.cons 2 rfl (.cons 1 rfl (.cons 1 rfl (.tl (.refl _))))))) S75)⟩
      ·
        refine g_next ?_
        exact hN67 _ _ _ hf ⟨rfl, (M.sub (.cons 0 rfl (.cons 0 rfl (.cons 0 rfl (.cons 0 rfl (.cons 0 rfl (.refl _)))))) S61)⟩
    rintro s63 _ H79 hf ⟨rfl, S78⟩
    refine g_if (g_test (g_op (g_var rfl (g_c (v_eqI (g_bl (v_iff hf (fun _ hf => ?_) (fun _ hf => ?_))))))))
    ·
      refine g_asgX (g_cb (g_cons (g_var rfl (g_nil (v_liN flI S78 (M.gotA S78 2 rfl) fun p80 H82 (S81 : M (acR K p80 (x24.map eI) :: adR K iS (eL eI) p5 s63 :: adR K iS (eL eI) p1 s29 :: da K u27 ((eL eI) x24) :: bagR a_bag_here :: da K v_a_names_here ((eL eS) a_names_here) :: Rs) H82) => ?_)))))
      have S84 : M (da K (V.ref p80) ((eL eI) x24) :: adR K iS (eL eI) p5 s63 :: adR K iS (eL eI) p1 s29 :: da K u27 ((eL eI) x24) :: bagR a_bag_here :: da K v_a_names_here ((eL eS) a_names_here) :: Rs) H82 := acR_fixL S81
      refine g_sub (g_var rfl (g_var rfl ?_))
      obtain ⟨h86, hf⟩ := hf
      refine v_putdS (e := (eL eI)) (x := x24) S84 1 rfl (EnF.at 0 rfl) h86 fun H88 (S87 : M (adR K iS (eL eI) p5 (pk s63 x12 x24) :: da K (V.ref p80) ((eL eI) x24) :: adR K iS (eL eI) p1 s29 :: da K u27 ((eL eI) x24) :: bagR a_bag_here :: da K v_a_names_here ((eL eS) a_names_here) :: Rs) H88) => ?_
      exact ⟨_, hf, _, _, _, rfl, (M.sub (.cons 2 rfl (.cons 0 rfl (.cons 2 rfl (.cons 2 rfl (.tl (.tl (.refl _))))))) S87)⟩
    ·
      refine g_next ?_
      exact ⟨_, hf, _, _, _, rfl, (M.sub (.cons 1 rfl (.cons 0 rfl (.cons 1 rfl (.cons 1 rfl (.tl (.refl _)))))) S78)⟩
  rintro s9 _ H91 hf ⟨o15, o16, o17, rfl, S90⟩
  refine g_nx ?_
  refine g_ret (g_tup (g_cons (g_var rfl (v_fzD S90 0 rfl fun H93 (S92 : M (da K (V.ref p1) ((eD iS (eL eI)) s9.1) :: adR K iS (eL eI) p5 s9.2 :: bagR a_bag_here :: da K v_a_names_here ((eL eS) a_names_here) :: Rs) H93) => ?_))))
  refine g_cons (g_var rfl (v_fzD S92 1 rfl fun H96 (S95 : M (da K (V.ref p5) ((eD iS (eL eI)) s9.2) :: da K (V.ref p1) ((eD iS (eL eI)) s9.1) :: bagR a_bag_here :: da K v_a_names_here ((eL eS) a_names_here) :: Rs) H96) => ?_))
  refine g_nil (v_tupq S95 (EnF.consA (EnF.at 1 rfl) (EnF.consA (EnF.at 0 rfl) EnF.nilA)) (len_ok rfl) fun p98 H100 (S99 : M (da K (V.ref p98) ((eP (eD iS (eL eI)) (eD iS (eL eI))) (s9.1, s9.2)) :: da K (V.ref p5) ((eD iS (eL eI)) s9.2) :: da K (V.ref p1) ((eD iS (eL eI)) s9.1) :: bagR a_bag_here :: da K v_a_names_here ((eL eS) a_names_here) :: Rs) H100) => ?_)
  exact hk _ _ _ hf (M.sub (.cons 0 rfl (.cons 2 rfl (.tl (.tl (.tl (.refl _)))))) S99)
def p_l_shuffled (a_files : (List (Str × (List Int)))) (P : (List (Str × (List Int))) → Prop) : Prop := (ks a_files).length ≤ 1000000 ∧ wlD (fun (s10 : (List Str) × (List (Str × (List Int)))) (k11 k12 : ((List Str) × (List (Str × (List Int)))) → Prop) => EqOk ((eL eS) s10.1) ∧ if (!(s10.1).isEmpty) = true then (takeD ((s10.1).length : Int) fun n34 => ((-(2 ^ 63) : Int) ≤ n34 ∧ n34 < (2 ^ 63 : Int)) ∧ ∃ n40, ixN (s10.1).length n34 = some n40 ∧ ∃ x37, (s10.1)[n40]? = some x37 ∧ (ks s10.2).length ≤ 100000 ∧ lcD (fun (x52 : Str) (k59 : Option (List Int) → Prop) => ∃ x62, lk s10.2 x52 = some x62 ∧ ∃ x67, lk a_files x37 = some x67 ∧ if (decide (x62 = x67)) = true then (∃ x72, lk s10.2 x52 = some x72 ∧ k59 (some x72)) else (k59 none)) (ks s10.2) [] fun acc49 => takeD 2 fun n84 => ((-(2 ^ 63) : Int) ≤ n84 ∧ n84 < (2 ^ 63 : Int) ∧ (acc49).length * (n84 : Int).toNat ≤ 100000) ∧ ∃ x94, lk a_files x37 = some x94 ∧ ((repL acc49 n84)).length + ([x94]).length ≤ 100000 ∧ ∃ x118, atI (cat (repL acc49 n84) ([x94])) 0 = some x118 ∧ (s10.2).length < 100000 ∧ k11 (((s10.1).eraseIdx n40), (pk s10.2 x37 x118))) else (k12 (s10.1, s10.2))) ((srtS' (ks a_files)), ([] : (List (Str × (List Int))))) fun s10 => P s10.2
def sp_l_shuffled (K : PySem.W.Frag) : Sp := fun vs H Q _ => ∃ (Rs : List Res) (a_bag_here : Addr) (v_a_files : V) (a_files : (List (Str × (List Int)))) (P : (List (Str × (List Int))) → Prop), vs = [(V.ref a_bag_here), v_a_files] ∧ M (bagR a_bag_here :: da K v_a_files ((eD iS (eL eI)) a_files) :: Rs) H ∧ p_l_shuffled a_files P ∧ ∀ (r : (List (Str × (List Int)))) (v : V) H', P r → M (da K v ((eD iS (eL eI)) r) :: bagR a_bag_here :: Rs) H' → Q v H'
theorem len_l_shuffled {K : PySem.W.Frag} (vs : List V) (H : Hp) (Q : VK) (E : XK) (h : sp_l_shuffled K vs H Q E) : vs.length = 2 := by
  obtain ⟨Rs, a_bag_here, v_a_files, a_files, P, rfl, _⟩ := h
  rfl
abbrev t_l_shuffled_5 (K : PySem.W.Frag) : TS := (tSeq (tLkS (tAsg (tLc (iKeys (tVar 3)) (gName 6) (tTest (tOp (uEq K) (tOp rIxK (tVar 3) (tVar 6)) (tOp rIxK (tVar 1) (tVar 4)))) (tOp rIxK (tVar 3) (tVar 6)) [6]) (gName 5)))
  (tAsg (tOp (uIx K) (tOp (uAdd K) (tOp rRep (tVar 5) (tCall (sp_l_take K) [] E0 (tCons (tVar 0) (tCons (tC (.int 2)) tNil)))) (tLst (tCons (tCB (rListOf K) (tCons (tOp rIxK (tVar 1) (tVar 4)) tNil)) tNil))) (tC (.int 0))) (gSub (tVar 3) (tVar 4) uSet)))
abbrev t_l_shuffled_4 (K : PySem.W.Frag) : TS := (tSeq (tAsg (tBM K "list" rPopAt (tVar 2) (tCons (tCall (sp_l_take K) [] E0 (tCons (tVar 0) (tCons (tCB (uLen K) (tCons (tVar 2) tNil)) tNil))) tNil)) (gName 4))
  (t_l_shuffled_5 K))
abbrev t_l_shuffled_3 (K : PySem.W.Frag) : TS := (tSeq (tWhile (tTest (tOp (uNe K) (tVar 2) (tLst tNil))) (t_l_shuffled_4 K))
  (tRet (tFzE (tVar 3))))
abbrev t_l_shuffled_2 (K : PySem.W.Frag) : TS := (tSeq (tAsg tDNewK (gName 3))
  (t_l_shuffled_3 K))
abbrev t_l_shuffled_1 (K : PySem.W.Frag) : TS := (tSeq (tAsg (tCB rSoDS (tCons (tVar 1) tNil)) (gName 2))
  (t_l_shuffled_2 K))
abbrev t_l_shuffled (K : PySem.W.Frag) : TS := (t_l_shuffled_1 K)
theorem pure_l_shuffled {K : PySem.W.Frag} (vs : List V) (H : Hp) (Q : VK) (E : XK) (h : sp_l_shuffled K vs H Q E) : t_l_shuffled K { nx := fun _ H' => Q .non H', rt := Q } (L2.start ["_law_bag_here", "_law_files", "_law_names_here", "_law_found", "_law_name", "_law_same", "_law_one"] vs) H := by
  obtain ⟨Rs, a_bag_here, v_a_files, a_files, P, rfl, S0, hf, hk⟩ := h
  show t_l_shuffled K _ [some (V.ref a_bag_here), some v_a_files, none, none, none, none, none] H
  refine g_seq (g_asg (g_cb (g_cons (g_var rfl (g_nil ?_)))))
  obtain ⟨h1, hf⟩ := hf
  refine d_soS (M.dvA S0 1 rfl) h1 fun p2 H4 (S3 : M (acR K p2 ((srtS' (ks a_files)).map eS) :: bagR a_bag_here :: da K v_a_files ((eD iS (eL eI)) a_files) :: Rs) H4) => ?_
  refine g_nx ?_
  refine g_seq (g_asg (v_dnewo S3 fun p6 H8 (S7 : M (adR K iS (eL eI) p6 ([] : (List (Str × (List Int)))) :: acR K p2 ((srtS' (ks a_files)).map eS) :: bagR a_bag_here :: da K v_a_files ((eD iS (eL eI)) a_files) :: Rs) H8) => ?_))
  refine g_nx ?_
  refine g_seq (g_while ?_)
  refine wh_D (β := (List Str) × (List (Str × (List Int)))) hf (fun (s10 : (List Str) × (List (Str × (List Int)))) σ H' => ∃ (o21 : Option V) (o22 : Option V) (o23 : Option V), σ = [some (V.ref a_bag_here), some v_a_files, some (V.ref p2), some (V.ref p6), o21, o22, o23] ∧ M (acR K p2 (s10.1.map eS) :: adR K iS (eL eI) p6 s10.2 :: bagR a_bag_here :: da K v_a_files ((eD iS (eL eI)) a_files) :: Rs) H') ⟨_, _, _, rfl, (M.sub (.cons 1 rfl (.cons 0 rfl (.cons 0 rfl (.cons 0 rfl (.refl _))))) S7)⟩ ?_ ?_
  ·
    rintro s10 _ H25 kk13 kk14 P15 N16 ⟨o21, o22, o23, rfl, S24⟩ hP17 hN18 hf
    refine g_test (g_op (g_var rfl (g_lst (g_nil (v_lsto (ds := ([] : (List Int)).map eI) S24 EnF.nilA (len_ok rfl) fun p26 H28 (S27 : M (acR K p26 (([] : (List Int)).map eI) :: acR K p2 (s10.1.map eS) :: adR K iS (eL eI) p6 s10.2 :: bagR a_bag_here :: da K v_a_files ((eD iS (eL eI)) a_files) :: Rs) H28) => ?_)))))
    have S30 : M (da K (V.ref p26) ((eL eI) ([] : (List Int))) :: acR K p2 (s10.1.map eS) :: adR K iS (eL eI) p6 s10.2 :: bagR a_bag_here :: da K v_a_files ((eD iS (eL eI)) a_files) :: Rs) H28 := acR_fixL S27
    obtain ⟨h32, hf⟩ := hf
    refine v_neNil (M.gotO S30 1 rfl) (M.gotA S30 0 rfl) h32 (g_bl (v_iff hf (fun _ hf => ?_) (fun _ hf => ?_)))
    ·
      refine wh_yes hP17 (g_seq (g_asg (g_bm (g_var rfl (M.tyO S30 1 rfl (g_cons (g_call (g_cons (g_var rfl (g_cons (g_cb (g_cons (g_var rfl (g_nil (v_lenN (M.gotO S30 1 rfl) (g_nil ?_))))))))))))))))
      obtain ⟨h33, hf⟩ := hf
      refine u_take (S30.at 3 rfl) h33 fun n34 H36 n34l n34u (S35 : M (bagR a_bag_here :: da K (V.ref p26) ((eL eI) ([] : (List Int))) :: acR K p2 (s10.1.map eS) :: adR K iS (eL eI) p6 s10.2 :: da K v_a_files ((eD iS (eL eI)) a_files) :: Rs) H36) => ?_
      replace hf := hf n34 n34l n34u
      refine g_nil ?_
      obtain ⟨h38, n40, h43, x37, h44, hf⟩ := hf
      refine v_popAt (e := eS) S35 2 rfl h38 h43 h44 fun u39 H42 (S41 : M (da K u39 (eS x37) :: acR K p2 (((s10.1).eraseIdx n40).map eS) :: bagR a_bag_here :: da K (V.ref p26) ((eL eI) ([] : (List Int))) :: adR K iS (eL eI) p6 s10.2 :: da K v_a_files ((eD iS (eL eI)) a_files) :: Rs) H42) => ?_
      obtain rfl := (S41.gotA 0 rfl).strV
      have S47 := S41.tl
      refine g_nx ?_
      have S48 : M (acR K p2 (((s10.1).eraseIdx n40).map eS) :: bagR a_bag_here :: adR K iS (eL eI) p6 s10.2 :: da K v_a_files ((eD iS (eL eI)) a_files) :: Rs) H42 := (M.drp S47 2)
      refine g_seq (asg_lk (g_asg ?_))
      have S61 : M (bdR K iS (eL eI) (V.ref p6) s10.2 DF.own :: acR K p2 (((s10.1).eraseIdx n40).map eS) :: bagR a_bag_here :: da K v_a_files ((eD iS (eL eI)) a_files) :: Rs) H42 := bd_open (M.at S48 2 rfl)
      refine lc_kys (K := K) (sv := V.str) (e' := (eL eI)) (fun _ => rfl) hf S61 0 rfl (fun _ _ _ S q => g_var rfl q) (fun f60 x52 acc49 E50 H58 kk51 N53 hl54 S57 hf hp55 hn56 => ?_) (fun E50 acc49 H80 hf (S79 : M (acR K E50 (acc49.map (eL eI)) :: bdR K iS (eL eI) (V.ref p6) s10.2 DF.own :: acR K p2 (((s10.1).eraseIdx n40).map eS) :: bagR a_bag_here :: da K v_a_files ((eD iS (eL eI)) a_files) :: Rs) H80) => ?_)
      ·
        refine g_name (g_wipe rfl (g_test (g_op (g_op (g_var rfl (g_var rfl ?_))))))
        obtain ⟨x62, h63, hf⟩ := hf
        refine d_ixS (M.dvB S57 1 rfl) h63 fun u64 S65 => ?_
        refine g_op (g_var rfl (g_var rfl ?_))
        obtain ⟨x67, h68, hf⟩ := hf
        refine d_ixS (M.dvA S65 5 rfl) h68 fun u69 S70 => ?_
        refine v_eqLI (M.gotA S70 1 rfl) (M.gotA S70 0 rfl) (g_bl (v_iff hf (fun _ hf => ?_) (fun _ hf => ?_)))
        ·
          refine g_op (g_var rfl (g_var rfl ?_))
          obtain ⟨x72, h73, hf⟩ := hf
          refine d_ixS (M.dvB S70 3 rfl) h73 fun u74 S75 => ?_
          refine acR_put S75 3 rfl (EnF.at 0 rfl) hl54 fun H78 (S77 : M (acR K E50 (acc49.map (eL eI) ++ [(eL eI) x72]) :: da K u74 ((eL eI) x72) :: da K u69 ((eL eI) x67) :: da K u64 ((eL eI) x62) :: bdR K iS (eL eI) (V.ref p6) s10.2 f60 :: acR K p2 (((s10.1).eraseIdx n40).map eS) :: bagR a_bag_here :: da K v_a_files ((eD iS (eL eI)) a_files) :: Rs) H78) => ?_
          exact hp55 _ _ hf (M.sub (.cons 0 rfl (.cons 3 rfl (.cons 3 rfl (.cons 3 rfl (.cons 3 rfl (.tl (.tl (.tl (.refl _))))))))) S77)
        ·
          exact hn56 _ hf (M.sub (.cons 2 rfl (.cons 2 rfl (.cons 2 rfl (.cons 2 rfl (.cons 2 rfl (.tl (.tl (.refl _)))))))) S70)
      have S82 : M (adR K iS (eL eI) p6 s10.2 :: acR K E50 (acc49.map (eL eI)) :: acR K p2 (((s10.1).eraseIdx n40).map eS) :: bagR a_bag_here :: da K v_a_files ((eD iS (eL eI)) a_files) :: Rs) H80 := bd_close (M.at S79 1 rfl)
      refine g_nx ?_
      refine g_asgX (g_op (g_op (g_op (g_var rfl (g_call (g_cons (g_var rfl (g_cons (g_c (g_nil ?_))))))))))
      obtain ⟨h83, hf⟩ := hf
      refine u_take (S82.at 3 rfl) h83 fun n84 H86 n84l n84u (S85 : M (bagR a_bag_here :: adR K iS (eL eI) p6 s10.2 :: acR K E50 (acc49.map (eL eI)) :: acR K p2 (((s10.1).eraseIdx n40).map eS) :: da K v_a_files ((eD iS (eL eI)) a_files) :: Rs) H86) => ?_
      replace hf := hf n84 n84l n84u
      obtain ⟨h87, hf⟩ := hf
      refine v_repO (e := (eL eI)) S85 2 rfl h87 fun p88 H90 (S89 : M (acR K p88 ((repL acc49 n84).map (eL eI)) :: bagR a_bag_here :: adR K iS (eL eI) p6 s10.2 :: acR K E50 (acc49.map (eL eI)) :: acR K p2 (((s10.1).eraseIdx n40).map eS) :: da K v_a_files ((eD iS (eL eI)) a_files) :: Rs) H90) => ?_
      have S92 : M (da K (V.ref p88) ((eL (eL eI)) (repL acc49 n84)) :: bagR a_bag_here :: adR K iS (eL eI) p6 s10.2 :: acR K E50 (acc49.map (eL eI)) :: acR K p2 (((s10.1).eraseIdx n40).map eS) :: da K v_a_files ((eD iS (eL eI)) a_files) :: Rs) H90 := acR_fixL S89
      refine g_lst (g_cons (g_cb (g_cons (g_op (g_var rfl (g_var rfl ?_))))))
      obtain ⟨x94, h95, hf⟩ := hf
      refine d_ixS (M.dvA S92 5 rfl) h95 fun u96 S97 => ?_
      refine g_nil (v_liN flI S97 (M.gotA S97 0 rfl) fun p99 H101 (S100 : M (acR K p99 (x94.map eI) :: da K u96 ((eL eI) x94) :: da K (V.ref p88) ((eL (eL eI)) (repL acc49 n84)) :: bagR a_bag_here :: adR K iS (eL eI) p6 s10.2 :: acR K E50 (acc49.map (eL eI)) :: acR K p2 (((s10.1).eraseIdx n40).map eS) :: da K v_a_files ((eD iS (eL eI)) a_files) :: Rs) H101) => ?_)
      have S103 : M (da K (V.ref p99) ((eL eI) x94) :: da K u96 ((eL eI) x94) :: da K (V.ref p88) ((eL (eL eI)) (repL acc49 n84)) :: bagR a_bag_here :: adR K iS (eL eI) p6 s10.2 :: acR K E50 (acc49.map (eL eI)) :: acR K p2 (((s10.1).eraseIdx n40).map eS) :: da K v_a_files ((eD iS (eL eI)) a_files) :: Rs) H101 := acR_fixL S100
      refine g_nil (v_lsto (ds := ([x94]).map (eL eI)) S103 (EnF.consA (EnF.at 0 rfl) EnF.nilA) (len_ok rfl) fun p105 H107 (S106 : M (acR K p105 (([x94]).map (eL eI)) :: da K (V.ref p99) ((eL eI) x94) :: da K u96 ((eL eI) x94) :: da K (V.ref p88) ((eL (eL eI)) (repL acc49 n84)) :: bagR a_bag_here :: adR K iS (eL eI) p6 s10.2 :: acR K E50 (acc49.map (eL eI)) :: acR K p2 (((s10.1).eraseIdx n40).map eS) :: da K v_a_files ((eD iS (eL eI)) a_files) :: Rs) H107) => ?_)
      have S109 : M (da K (V.ref p105) ((eL (eL eI)) ([x94])) :: da K (V.ref p99) ((eL eI) x94) :: da K u96 ((eL eI) x94) :: da K (V.ref p88) ((eL (eL eI)) (repL acc49 n84)) :: bagR a_bag_here :: adR K iS (eL eI) p6 s10.2 :: acR K E50 (acc49.map (eL eI)) :: acR K p2 (((s10.1).eraseIdx n40).map eS) :: da K v_a_files ((eD iS (eL eI)) a_files) :: Rs) H107 := acR_fixL S106
      obtain ⟨h111, hf⟩ := hf
      refine v_catq S109 3 0 rfl rfl h111 fun p112 H114 (S113 : M (acR K p112 ((cat (repL acc49 n84) ([x94])).map (eL eI)) :: da K (V.ref p105) ((eL (eL eI)) ([x94])) :: da K (V.ref p99) ((eL eI) x94) :: da K u96 ((eL eI) x94) :: da K (V.ref p88) ((eL (eL eI)) (repL acc49 n84)) :: bagR a_bag_here :: adR K iS (eL eI) p6 s10.2 :: acR K E50 (acc49.map (eL eI)) :: acR K p2 (((s10.1).eraseIdx n40).map eS) :: da K v_a_files ((eD iS (eL eI)) a_files) :: Rs) H114) => ?_
      refine g_c ?_
      have S116 : M (da K (V.ref p112) ((eL (eL eI)) (cat (repL acc49 n84) ([x94]))) :: da K (V.ref p105) ((eL (eL eI)) ([x94])) :: da K (V.ref p99) ((eL eI) x94) :: da K u96 ((eL eI) x94) :: da K (V.ref p88) ((eL (eL eI)) (repL acc49 n84)) :: bagR a_bag_here :: adR K iS (eL eI) p6 s10.2 :: acR K E50 (acc49.map (eL eI)) :: acR K p2 (((s10.1).eraseIdx n40).map eS) :: da K v_a_files ((eD iS (eL eI)) a_files) :: Rs) H114 := acR_fixL S113
      obtain ⟨x118, h119, hf⟩ := hf
      refine v_ixl S116 0 rfl h119 fun u120 S121 => ?_
      refine g_sub (g_var rfl (g_var rfl ?_))
      obtain ⟨h123, hf⟩ := hf
      refine v_putdS (e := (eL eI)) (x := x118) S121 7 rfl (EnF.at 0 rfl) h123 fun H125 (S124 : M (adR K iS (eL eI) p6 (pk s10.2 x37 x118) :: da K u120 ((eL eI) x118) :: da K (V.ref p112) ((eL (eL eI)) (cat (repL acc49 n84) ([x94]))) :: da K (V.ref p105) ((eL (eL eI)) ([x94])) :: da K (V.ref p99) ((eL eI) x94) :: da K u96 ((eL eI) x94) :: da K (V.ref p88) ((eL (eL eI)) (repL acc49 n84)) :: bagR a_bag_here :: acR K E50 (acc49.map (eL eI)) :: acR K p2 (((s10.1).eraseIdx n40).map eS) :: da K v_a_files ((eD iS (eL eI)) a_files) :: Rs) H125) => ?_
      exact ⟨_, hf, _, _, _, rfl, (M.sub (.cons 9 rfl (.cons 0 rfl (.cons 6 rfl (.cons 7 rfl (.tl (.tl (.tl (.tl (.tl (.tl (.tl (.refl _)))))))))))) S124)⟩
    ·
      exact hN18 _ _ _ hf ⟨_, _, _, rfl, (M.sub (.cons 1 rfl (.cons 1 rfl (.cons 1 rfl (.cons 1 rfl (.tl (.refl _)))))) S30)⟩
  rintro s10 _ H128 hf ⟨o21, o22, o23, rfl, S127⟩
  refine g_nx ?_
  refine g_ret (g_var rfl (v_fzD S127 1 rfl fun H130 (S129 : M (da K (V.ref p6) ((eD iS (eL eI)) s10.2) :: acR K p2 (s10.1.map eS) :: bagR a_bag_here :: da K v_a_files ((eD iS (eL eI)) a_files) :: Rs) H130) => ?_))
  exact hk _ _ _ hf (M.sub (.cons 0 rfl (.cons 1 rfl (.tl (.tl (.refl _))))) S129)
def p_l_sixty  (P : (List Str) → Prop) : Prop := ((-(2 ^ 62) : Int) ≤ 60 ∧ 60 < (2 ^ 62 : Int)) ∧ (rng 60).length ≤ 100000 ∧ lcD (fun (x5 : Int) (k12 : Option Str → Prop) => ((0 : Int) < 26 ∧ 26 < (2 ^ 64 : Int)) ∧ ∃ x14, atS ("abcdefghijklmnopqrstuvwxyz" : Str) (x5 / 26) = some x14 ∧ ((0 : Int) < 26) ∧ ∃ x17, atS ("abcdefghijklmnopqrstuvwxyz" : Str) (x5 % 26) = some x17 ∧ ((x14).length + (x17).length ≤ 100000) ∧ k12 (some (x14 ++ x17))) (rng 60) [] fun acc2 => P acc2
def sp_l_sixty (K : PySem.W.Frag) : Sp := fun vs H Q _ => ∃ (Rs : List Res)  (P : (List Str) → Prop), vs = [] ∧ M (Rs) H ∧ p_l_sixty P ∧ ∀ (r : (List Str)) (v : V) H', P r → M (da K v ((eL eS) r) :: Rs) H' → Q v H'
theorem len_l_sixty {K : PySem.W.Frag} (vs : List V) (H : Hp) (Q : VK) (E : XK) (h : sp_l_sixty K vs H Q E) : vs.length = 0 := by
  obtain ⟨Rs, P, rfl, _⟩ := h
  rfl
abbrev t_l_sixty_1 (K : PySem.W.Frag) : TS := (tSeq (tAsg (tC (.str "abcdefghijklmnopqrstuvwxyz")) (gName 0))
  (tRet (tLc (iRng1 (tCons (tC (.int 60)) tNil)) (gName 1) tYes (tOp (uAdd K) (tOp (uIx K) (tVar 0) (tOp uDiv (tVar 1) (tC (.int 26)))) (tOp (uIx K) (tVar 0) (tOp uMod (tVar 1) (tC (.int 26))))) [1])))
abbrev t_l_sixty (K : PySem.W.Frag) : TS := (t_l_sixty_1 K)
theorem pure_l_sixty {K : PySem.W.Frag} (vs : List V) (H : Hp) (Q : VK) (E : XK) (h : sp_l_sixty K vs H Q E) : t_l_sixty K { nx := fun _ H' => Q .non H', rt := Q } (L2.start ["_law_letters", "_law_k"] vs) H := by
  obtain ⟨Rs, P, rfl, S0, hf, hk⟩ := h
  show t_l_sixty K _ [none, none] H
  refine g_seq (g_asg (g_c (g_nx ?_)))
  obtain ⟨h1, hf⟩ := hf
  refine g_ret (g_lc (g_iRng1 (g_cons (g_c (g_nil (v_itR h1 ?_))))))
  refine lc_rng (K := K) (e' := eS) hf S0 (fun x5 acc2 E3 H11 kk4 N6 hl7 S10 hf hp8 hn9 => ?_) (fun E3 acc2 H23 hf S22 => ?_)
  ·
    obtain ⟨h13, hf⟩ := hf
    obtain ⟨x14, h15, hf⟩ := hf
    obtain ⟨h16, hf⟩ := hf
    obtain ⟨x17, h18, hf⟩ := hf
    obtain ⟨h19, hf⟩ := hf
    refine g_name (g_wipe rfl (g_yes (v_ifT (g_op (g_op (g_var rfl (g_op (g_var rfl (g_c (v_div h13 (v_ixs h15 (g_op (g_var rfl (g_op (g_var rfl (g_c (v_mod h16 (v_ixs h18 (v_addS h19 (acR_put S10 0 rfl (EnF.all fun _ => .str _) hl7 fun H21 (S20 : M (acR K E3 (acc2.map eS ++ [eS (x14 ++ x17)]) :: Rs) H21) => ?_))))))))))))))))))))
    exact hp8 _ _ hf (M.sub (.cons 0 rfl (.refl _)) S20)
  have S25 : M (da K (V.ref E3) ((eL eS) acc2) :: Rs) H23 := acR_fixL S22
  exact hk _ _ _ hf (M.sub (.cons 0 rfl (.refl _)) S25)
def p_l_rows (a_elder : (List (Str × (List Int)))) (a_newer : (List (Str × (List Int)))) (P : (List PyData) → Prop) : Prop := (ks a_newer).length ≤ 100000 ∧ lcD (fun (x14 : Str) (k21 : Option Str → Prop) => if (!(lk a_elder x14).isSome) = true then (k21 (some x14)) else (k21 none)) (ks a_newer) [] fun acc11 => ((ks a_elder)).length + (acc11).length ≤ 100000 ∧ ((cat (ks a_elder) acc11)).length ≤ 1000000 ∧ forD (fun (x47 : Str) (s44 : (List PyData)) (k45 : ((List PyData)) → Prop) => if (!(lk a_newer x47).isSome) = true then ((s44).length < 100000 ∧ k45 (sno s44 ((eP eS eS) (("gone" : Str), x47)))) else (∃ x65, lk a_newer x47 = some x65 ∧ if (!decide ((lk a_elder x47) = some x65)) = true then (∃ x70, lk a_newer x47 = some x70 ∧ (s44).length < 100000 ∧ k45 (sno s44 ((eT3 eS eS (eL eI)) (("put" : Str), x47, x70)))) else (k45 s44))) (srtS' (cat (ks a_elder) acc11)) ([] : List PyData) fun s44 => P s44
def sp_l_rows (K : PySem.W.Frag) : Sp := fun vs H Q _ => ∃ (Rs : List Res) (v_a_elder : V) (a_elder : (List (Str × (List Int)))) (v_a_newer : V) (a_newer : (List (Str × (List Int)))) (P : (List PyData) → Prop), vs = [v_a_elder, v_a_newer] ∧ M (da K v_a_elder ((eD iS (eL eI)) a_elder) :: da K v_a_newer ((eD iS (eL eI)) a_newer) :: Rs) H ∧ p_l_rows a_elder a_newer P ∧ ∀ (r : (List PyData)) (v : V) H', P r → M (da K v ((eL eA) r) :: Rs) H' → Q v H'
theorem len_l_rows {K : PySem.W.Frag} (vs : List V) (H : Hp) (Q : VK) (E : XK) (h : sp_l_rows K vs H Q E) : vs.length = 2 := by
  obtain ⟨Rs, v_a_elder, a_elder, v_a_newer, a_newer, P, rfl, _⟩ := h
  rfl
abbrev t_l_rows_5 (K : PySem.W.Frag) : TS := (tIfS (tTest (tOp (uNe K) (tDGet1 (tVar 0) (tVar 3)) (tOp rIxK (tVar 1) (tVar 3)))) (tDrop (tBM K "list" rAppend (tVar 2) (tCons (tTup (tCons (tC (.str "put")) (tCons (tVar 3) (tCons (tCB (rListOf K) (tCons (tOp rIxK (tVar 1) (tVar 3)) tNil)) tNil)))) tNil))) tNext)
abbrev t_l_rows_3 (K : PySem.W.Frag) : TS := (tIfS (tTest (tOp (uNotIn K) (tVar 3) (tVar 1))) (tDrop (tBM K "list" rAppend (tVar 2) (tCons (tTup (tCons (tC (.str "gone")) (tCons (tVar 3) tNil))) tNil))) (t_l_rows_5 K))
abbrev t_l_rows_2 (K : PySem.W.Frag) : TS := (tSeq (tFor (iList K (tCB (rSoL K) (tCons (tOp (uAdd K) (tCB rListK (tCons (tVar 0) tNil)) (tLkE (tLc (iKeys (tVar 1)) (gName 3) (tTest (tOp (uNotIn K) (tVar 3) (tVar 0))) (tVar 3) [3]))) tNil))) (gName 3) (t_l_rows_3 K))
  (tRet (tVar 2)))
abbrev t_l_rows_1 (K : PySem.W.Frag) : TS := (tSeq (tAsg (tLst tNil) (gName 2))
  (t_l_rows_2 K))
abbrev t_l_rows (K : PySem.W.Frag) : TS := (t_l_rows_1 K)
theorem pure_l_rows {K : PySem.W.Frag} (vs : List V) (H : Hp) (Q : VK) (E : XK) (h : sp_l_rows K vs H Q E) : t_l_rows K { nx := fun _ H' => Q .non H', rt := Q } (L2.start ["_law_elder", "_law_newer", "_law_rows_here", "_law_name"] vs) H := by
  obtain ⟨Rs, v_a_elder, a_elder, v_a_newer, a_newer, P, rfl, S0, hf, hk⟩ := h
  show t_l_rows K _ [some v_a_elder, some v_a_newer, none, none] H
  refine g_seq (g_asg (g_lst (g_nil (v_lsto (ds := ([] : List PyData).map eA) S0 EnF.nilA (len_ok rfl) fun p1 H3 (S2 : M (acR K p1 (([] : List PyData).map eA) :: da K v_a_elder ((eD iS (eL eI)) a_elder) :: da K v_a_newer ((eD iS (eL eI)) a_newer) :: Rs) H3) => ?_))))
  refine g_nx ?_
  refine g_seq (g_for (g_iList (g_cb (g_cons (g_op (g_cb (g_cons (g_var rfl (g_nil (d_listS (M.dvA S2 1 rfl) fun p5 H7 (S6 : M (acR K p5 ((ks a_elder).map eS) :: acR K p1 (([] : List PyData).map eA) :: da K v_a_elder ((eD iS (eL eI)) a_elder) :: da K v_a_newer ((eD iS (eL eI)) a_newer) :: Rs) H7) => ?_))))))))))
  have S9 : M (da K (V.ref p5) ((eL eS) (ks a_elder)) :: acR K p1 (([] : List PyData).map eA) :: da K v_a_elder ((eD iS (eL eI)) a_elder) :: da K v_a_newer ((eD iS (eL eI)) a_newer) :: Rs) H7 := acR_fixL S6
  have S23 : M (bdR K iS (eL eI) v_a_newer a_newer DF.dat :: da K (V.ref p5) ((eL eS) (ks a_elder)) :: acR K p1 (([] : List PyData).map eA) :: da K v_a_elder ((eD iS (eL eI)) a_elder) :: da K v_a_newer ((eD iS (eL eI)) a_newer) :: Rs) H7 := M.addA S9 (EnF.at 3 rfl)
  refine lc_kys (K := K) (sv := V.str) (e' := eS) (fun _ => rfl) hf S23 0 rfl (fun _ _ _ S q => g_var rfl q) (fun f22 x14 acc11 E12 H20 kk13 N15 hl16 S19 hf hp17 hn18 => ?_) (fun E12 acc11 H28 hf (S27 : M (acR K E12 (acc11.map eS) :: bdR K iS (eL eI) v_a_newer a_newer DF.dat :: da K (V.ref p5) ((eL eS) (ks a_elder)) :: acR K p1 (([] : List PyData).map eA) :: da K v_a_elder ((eD iS (eL eI)) a_elder) :: da K v_a_newer ((eD iS (eL eI)) a_newer) :: Rs) H28) => ?_)
  ·
    refine g_name (g_wipe rfl (g_test (g_op (g_var rfl (g_var rfl (d_ninS (M.dvA S19 4 rfl) (g_bl (v_iff hf (fun _ hf => ?_) (fun _ hf => ?_)))))))))
    ·
      refine g_var rfl (acR_put S19 0 rfl (EnF.all fun _ => .str _) hl16 fun H26 (S25 : M (acR K E12 (acc11.map eS ++ [eS x14]) :: bdR K iS (eL eI) v_a_newer a_newer f22 :: da K (V.ref p5) ((eL eS) (ks a_elder)) :: acR K p1 (([] : List PyData).map eA) :: da K v_a_elder ((eD iS (eL eI)) a_elder) :: da K v_a_newer ((eD iS (eL eI)) a_newer) :: Rs) H26) => ?_)
      exact hp17 _ _ hf (M.sub (.cons 0 rfl (.cons 0 rfl (.cons 0 rfl (.cons 0 rfl (.cons 0 rfl (.cons 0 rfl (.refl _))))))) S25)
    ·
      exact hn18 _ hf (M.sub (.cons 0 rfl (.cons 0 rfl (.cons 0 rfl (.cons 0 rfl (.cons 0 rfl (.cons 0 rfl (.refl _))))))) S19)
  have S30 : M (da K (V.ref E12) ((eL eS) acc11) :: bdR K iS (eL eI) v_a_newer a_newer DF.dat :: da K (V.ref p5) ((eL eS) (ks a_elder)) :: acR K p1 (([] : List PyData).map eA) :: da K v_a_elder ((eD iS (eL eI)) a_elder) :: da K v_a_newer ((eD iS (eL eI)) a_newer) :: Rs) H28 := acR_fixL S27
  obtain ⟨h32, hf⟩ := hf
  refine v_catN flS S30 (M.gotA S30 2 rfl) (M.gotA S30 0 rfl) h32 fun p33 H35 (S34 : M (acR K p33 ((cat (ks a_elder) acc11).map eS) :: da K (V.ref E12) ((eL eS) acc11) :: bdR K iS (eL eI) v_a_newer a_newer DF.dat :: da K (V.ref p5) ((eL eS) (ks a_elder)) :: acR K p1 (([] : List PyData).map eA) :: da K v_a_elder ((eD iS (eL eI)) a_elder) :: da K v_a_newer ((eD iS (eL eI)) a_newer) :: Rs) H35) => ?_
  have S37 : M (da K (V.ref p33) ((eL eS) (cat (ks a_elder) acc11)) :: da K (V.ref E12) ((eL eS) acc11) :: bdR K iS (eL eI) v_a_newer a_newer DF.dat :: da K (V.ref p5) ((eL eS) (ks a_elder)) :: acR K p1 (([] : List PyData).map eA) :: da K v_a_elder ((eD iS (eL eI)) a_elder) :: da K v_a_newer ((eD iS (eL eI)) a_newer) :: Rs) H35 := acR_fixL S34
  refine g_nil ?_
  obtain ⟨h39, hf⟩ := hf
  refine v_soLS S37 (M.gotA S37 0 rfl) h39 fun p40 H42 (S41 : M (acR K p40 ((srtS' (cat (ks a_elder) acc11)).map eS) :: da K (V.ref p33) ((eL eS) (cat (ks a_elder) acc11)) :: da K (V.ref E12) ((eL eS) acc11) :: bdR K iS (eL eI) v_a_newer a_newer DF.dat :: da K (V.ref p5) ((eL eS) (ks a_elder)) :: acR K p1 (([] : List PyData).map eA) :: da K v_a_elder ((eD iS (eL eI)) a_elder) :: da K v_a_newer ((eD iS (eL eI)) a_newer) :: Rs) H42) => ?_
  refine for_N flS (K := K) (β := (List PyData)) hf (fun (s44 : (List PyData)) σ H' => ∃ (o49 : Option V), σ = [some v_a_elder, some v_a_newer, some (V.ref p1), o49] ∧ M (acR K p1 (s44.map eA) :: acR K p40 ((srtS' (cat (ks a_elder) acc11)).map eS) :: da K (V.ref p33) ((eL eS) (cat (ks a_elder) acc11)) :: da K (V.ref E12) ((eL eS) acc11) :: bdR K iS (eL eI) v_a_newer a_newer DF.dat :: da K (V.ref p5) ((eL eS) (ks a_elder)) :: da K v_a_elder ((eD iS (eL eI)) a_elder) :: da K v_a_newer ((eD iS (eL eI)) a_newer) :: Rs) H') ⟨_, rfl, (M.sub (.cons 5 rfl (.cons 0 rfl (.cons 0 rfl (.cons 0 rfl (.cons 0 rfl (.cons 0 rfl (.cons 0 rfl (.cons 0 rfl (.refl _))))))))) S41)⟩ (fun _ _ _ h => by obtain ⟨_, _, S⟩ := h; exact S.gotO 1 rfl) ?_ ?_
  ·
    rintro x47 s44 _ H51 kk46 ⟨o49, rfl, S50⟩ hf
    refine g_name (g_if (g_test (g_op (g_var rfl (g_var rfl (d_ninS (M.dvA S50 7 rfl) (g_bl (v_iff hf (fun _ hf => ?_) (fun _ hf => ?_)))))))))
    ·
      refine g_drop (g_bm (g_var rfl (M.tyO S50 0 rfl (g_cons (g_tup (g_cons (g_c (g_cons (g_var rfl (g_nil (v_tupq S50 (EnF.consA (EnF.all fun _ => .str _) (EnF.consA (EnF.all fun _ => .str _) EnF.nilA)) (len_ok rfl) fun p52 H54 (S53 : M (da K (V.ref p52) ((eP eS eS) (("gone" : Str), x47)) :: acR K p1 (s44.map eA) :: acR K p40 ((srtS' (cat (ks a_elder) acc11)).map eS) :: da K (V.ref p33) ((eL eS) (cat (ks a_elder) acc11)) :: da K (V.ref E12) ((eL eS) acc11) :: bdR K iS (eL eI) v_a_newer a_newer DF.dat :: da K (V.ref p5) ((eL eS) (ks a_elder)) :: da K v_a_elder ((eD iS (eL eI)) a_elder) :: da K v_a_newer ((eD iS (eL eI)) a_newer) :: Rs) H54) => ?_)))))))))))
      refine g_nil ?_
      obtain ⟨h56, hf⟩ := hf
      refine v_apl (e := eA) (x := ((eP eS eS) (("gone" : Str), x47))) S53 1 rfl (EnF.at 0 rfl) h56 fun H58 (S57 : M (acR K p1 ((sno s44 ((eP eS eS) (("gone" : Str), x47))).map eA) :: da K (V.ref p52) ((eP eS eS) (("gone" : Str), x47)) :: acR K p40 ((srtS' (cat (ks a_elder) acc11)).map eS) :: da K (V.ref p33) ((eL eS) (cat (ks a_elder) acc11)) :: da K (V.ref E12) ((eL eS) acc11) :: bdR K iS (eL eI) v_a_newer a_newer DF.dat :: da K (V.ref p5) ((eL eS) (ks a_elder)) :: da K v_a_elder ((eD iS (eL eI)) a_elder) :: da K v_a_newer ((eD iS (eL eI)) a_newer) :: Rs) H58) => ?_
      exact ⟨_, hf, _, rfl, (M.sub (.cons 0 rfl (.cons 1 rfl (.cons 1 rfl (.cons 1 rfl (.cons 1 rfl (.cons 1 rfl (.cons 1 rfl (.cons 1 rfl (.tl (.refl _)))))))))) S57)⟩
    ·
      refine g_if (g_test (g_op (g_dget1 (g_var rfl (v_dget1 (M.dvA S50 6 rfl) fun a60 h61 => ?_)))))
      refine g_var rfl (v_getN injS rfl S50 (show DVs K _ _ iS (eL eI) (.ref a60) _ from h61 ▸ (M.dvA S50 6 rfl)) fun u62 (S63 : M (da K u62 ((eO (eL eI)) (lk a_elder x47)) :: acR K p1 (s44.map eA) :: acR K p40 ((srtS' (cat (ks a_elder) acc11)).map eS) :: da K (V.ref p33) ((eL eS) (cat (ks a_elder) acc11)) :: da K (V.ref E12) ((eL eS) acc11) :: bdR K iS (eL eI) v_a_newer a_newer DF.dat :: da K (V.ref p5) ((eL eS) (ks a_elder)) :: da K v_a_elder ((eD iS (eL eI)) a_elder) :: da K v_a_newer ((eD iS (eL eI)) a_newer) :: Rs) H51) => ?_)
      refine g_op (g_var rfl (g_var rfl ?_))
      obtain ⟨x65, h66, hf⟩ := hf
      refine d_ixS (M.dvA S63 8 rfl) h66 fun u67 S68 => ?_
      refine v_neOL (M.gotA S68 1 rfl) (M.gotA S68 0 rfl) (g_bl (v_iff hf (fun _ hf => ?_) (fun _ hf => ?_)))
      ·
        refine g_drop (g_bm (g_var rfl (M.tyO S68 2 rfl (g_cons (g_tup (g_cons (g_c (g_cons (g_var rfl (g_cons (g_cb (g_cons (g_op (g_var rfl (g_var rfl ?_)))))))))))))))
        obtain ⟨x70, h71, hf⟩ := hf
        refine d_ixS (M.dvA S68 9 rfl) h71 fun u72 S73 => ?_
        refine g_nil (v_liN flI S73 (M.gotA S73 0 rfl) fun p75 H77 (S76 : M (acR K p75 (x70.map eI) :: da K u72 ((eL eI) x70) :: da K u67 ((eL eI) x65) :: da K u62 ((eO (eL eI)) (lk a_elder x47)) :: acR K p1 (s44.map eA) :: acR K p40 ((srtS' (cat (ks a_elder) acc11)).map eS) :: da K (V.ref p33) ((eL eS) (cat (ks a_elder) acc11)) :: da K (V.ref E12) ((eL eS) acc11) :: bdR K iS (eL eI) v_a_newer a_newer DF.dat :: da K (V.ref p5) ((eL eS) (ks a_elder)) :: da K v_a_elder ((eD iS (eL eI)) a_elder) :: da K v_a_newer ((eD iS (eL eI)) a_newer) :: Rs) H77) => ?_)
        have S79 : M (da K (V.ref p75) ((eL eI) x70) :: da K u72 ((eL eI) x70) :: da K u67 ((eL eI) x65) :: da K u62 ((eO (eL eI)) (lk a_elder x47)) :: acR K p1 (s44.map eA) :: acR K p40 ((srtS' (cat (ks a_elder) acc11)).map eS) :: da K (V.ref p33) ((eL eS) (cat (ks a_elder) acc11)) :: da K (V.ref E12) ((eL eS) acc11) :: bdR K iS (eL eI) v_a_newer a_newer DF.dat :: da K (V.ref p5) ((eL eS) (ks a_elder)) :: da K v_a_elder ((eD iS (eL eI)) a_elder) :: da K v_a_newer ((eD iS (eL eI)) a_newer) :: Rs) H77 := acR_fixL S76
        refine g_nil (v_tupq S79 (EnF.consA (EnF.all fun _ => .str _) (EnF.consA (EnF.all fun _ => .str _) (EnF.consA (EnF.at 0 rfl) EnF.nilA))) (len_ok rfl) fun p81 H83 (S82 : M (da K (V.ref p81) ((eT3 eS eS (eL eI)) (("put" : Str), x47, x70)) :: da K (V.ref p75) ((eL eI) x70) :: da K u72 ((eL eI) x70) :: da K u67 ((eL eI) x65) :: da K u62 ((eO (eL eI)) (lk a_elder x47)) :: acR K p1 (s44.map eA) :: acR K p40 ((srtS' (cat (ks a_elder) acc11)).map eS) :: da K (V.ref p33) ((eL eS) (cat (ks a_elder) acc11)) :: da K (V.ref E12) ((eL eS) acc11) :: bdR K iS (eL eI) v_a_newer a_newer DF.dat :: da K (V.ref p5) ((eL eS) (ks a_elder)) :: da K v_a_elder ((eD iS (eL eI)) a_elder) :: da K v_a_newer ((eD iS (eL eI)) a_newer) :: Rs) H83) => ?_)
        refine g_nil ?_
        obtain ⟨h85, hf⟩ := hf
        refine v_apl (e := eA) (x := ((eT3 eS eS (eL eI)) (("put" : Str), x47, x70))) S82 5 rfl (EnF.at 0 rfl) h85 fun H87 (S86 : M (acR K p1 ((sno s44 ((eT3 eS eS (eL eI)) (("put" : Str), x47, x70))).map eA) :: da K (V.ref p81) ((eT3 eS eS (eL eI)) (("put" : Str), x47, x70)) :: da K (V.ref p75) ((eL eI) x70) :: da K u72 ((eL eI) x70) :: da K u67 ((eL eI) x65) :: da K u62 ((eO (eL eI)) (lk a_elder x47)) :: acR K p40 ((srtS' (cat (ks a_elder) acc11)).map eS) :: da K (V.ref p33) ((eL eS) (cat (ks a_elder) acc11)) :: da K (V.ref E12) ((eL eS) acc11) :: bdR K iS (eL eI) v_a_newer a_newer DF.dat :: da K (V.ref p5) ((eL eS) (ks a_elder)) :: da K v_a_elder ((eD iS (eL eI)) a_elder) :: da K v_a_newer ((eD iS (eL eI)) a_newer) :: Rs) H87) => ?_
        exact ⟨_, hf, _, rfl, (M.sub (.cons 0 rfl (.cons 5 rfl (.cons 5 rfl (.cons 5 rfl (.cons 5 rfl (.cons 5 rfl (.cons 5 rfl (.cons 5 rfl (.tl (.tl (.tl (.tl (.tl (.refl _)))))))))))))) S86)⟩
      ·
        refine g_next ?_
        exact ⟨_, hf, _, rfl, (M.sub (.cons 2 rfl (.cons 2 rfl (.cons 2 rfl (.cons 2 rfl (.cons 2 rfl (.cons 2 rfl (.cons 2 rfl (.cons 2 rfl (.tl (.tl (.refl _))))))))))) S68)⟩
  rintro s44 _ H90 hf ⟨o49, rfl, S89⟩
  refine g_nx ?_
  have S91 : M (acR K p1 (s44.map eA) :: acR K p40 ((srtS' (cat (ks a_elder) acc11)).map eS) :: bdR K iS (eL eI) v_a_newer a_newer DF.dat :: da K v_a_elder ((eD iS (eL eI)) a_elder) :: da K v_a_newer ((eD iS (eL eI)) a_newer) :: Rs) H90 := (M.drp (M.drp (M.drp S89 5) 3) 2)
  refine g_ret (g_var rfl ?_)
  have S92 : M (da K (V.ref p1) ((eL eA) s44) :: acR K p40 ((srtS' (cat (ks a_elder) acc11)).map eS) :: bdR K iS (eL eI) v_a_newer a_newer DF.dat :: da K v_a_elder ((eD iS (eL eI)) a_elder) :: da K v_a_newer ((eD iS (eL eI)) a_newer) :: Rs) H90 := acR_fixL S91
  exact hk _ _ _ hf (M.sub (.cons 0 rfl (.tl (.tl (.tl (.tl (.refl _)))))) S92)
def p_l_right (a_elder : (List (Str × (List Int)))) (a_newer : (List (Str × (List Int)))) (P : Bool → Prop) : Prop := p_l_rows a_elder a_newer fun x3 => ((-(2 ^ 62) : Int) ≤ 2 ∧ 2 < (2 ^ 62 : Int)) ∧ forD (fun (x12 : Int) (s9 : Unit) (k10 : (Unit) → Prop) => p_l_shuffled a_elder fun x24 => p_l_shuffled a_newer fun x30 => AlkOk ((eL (eD iS (eL eI))) ([x24, x30])) ∧ ∃ x43, atI ([x24, x30]) 0 = some x43 ∧ ∃ x48, atI ([x24, x30]) 1 = some x48 ∧ p_changes x43 x48 (fun x60 => False) fun x55 => jn (fun k72 => ((eLO x55) = ((eL eA) x3) ∧ AlkOk (eLO x55)) ∧ AlkOk ((eL (eD iS (eL eI))) ([x24, x30])) ∧ k72 (!decide ((PyData.shown ((eL (eD iS (eL eI))) ([x24, x30]))) = (PyData.shown ((eL (eD iS (eL eI))) ([x24, x30])))))) fun c68 => if c68 = true then (P false) else ((x55).length ≤ 100000 ∧ lcD (fun (x84 : OD) (k89 : Option (List Int) → Prop) => ∃ d100, OD.at x84 0 = some (OD.fz d100) ∧ ∃ x105 : Str, d100 = eS x105 ∧ if (decide (x105 = ("put" : Str))) = true then (∃ y109, OD.at x84 2 = some y109 ∧ ∃ x114 : (List Int), y109 = OD.ol (OD.fzs eI x114) ∧ k89 (some x114)) else (k89 none)) x55 [] fun acc81 => (acc81).length ≤ 100000 ∧ lcD (fun (x134 : (List Int)) (k139 : Option Int → Prop) => k139 (some (((x134).length : Int) + 1))) acc81 [] fun acc131 => forD (fun (i175 : Nat) (s171 : (List (List Int))) (k172 : ((List (List Int))) → Prop) => ∃ x174, (s171)[i175]? = some x174 ∧ (x174).length < 100000 ∧ k172 (s171.set i175 (sno x174 7))) (List.range (acc81).length) acc81 fun s171 => jn (fun k205 => AlkOk ((eL (eD iS (eL eI))) ([x24, x30])) ∧ if (!decide ((PyData.shown ((eL (eD iS (eL eI))) ([x24, x30]))) = (PyData.shown ((eL (eD iS (eL eI))) ([x24, x30]))))) = true then (k205 true) else ((s171).length ≤ 100000 ∧ lcD (fun (x214 : (List Int)) (k219 : Option Int → Prop) => k219 (some ((x214).length : Int))) s171 [] fun acc211 => k205 (!decide (acc211 = acc131)))) fun c201 => if c201 = true then (P false) else (((x55.map fun _ => ())).length < 100000 ∧ k10 ()))) (rng 2) () fun s9 => P true
def sp_l_right (K : PySem.W.Frag) : Sp := fun vs H Q _ => ∃ (Rs : List Res) (a_bag_here : Addr) (v_a_elder : V) (a_elder : (List (Str × (List Int)))) (v_a_newer : V) (a_newer : (List (Str × (List Int)))) (P : Bool → Prop), vs = [(V.ref a_bag_here), v_a_elder, v_a_newer] ∧ M (bagR a_bag_here :: da K v_a_elder ((eD iS (eL eI)) a_elder) :: da K v_a_newer ((eD iS (eL eI)) a_newer) :: Rs) H ∧ p_l_right a_elder a_newer P ∧ ∀ (r : Bool) H', P r → M (bagR a_bag_here :: Rs) H' → Q (V.bl r) H'
theorem len_l_right {K : PySem.W.Frag} (vs : List V) (H : Hp) (Q : VK) (E : XK) (h : sp_l_right K vs H Q E) : vs.length = 3 := by
  obtain ⟨Rs, a_bag_here, v_a_elder, a_elder, v_a_newer, a_newer, P, rfl, _⟩ := h
  rfl
abbrev t_l_right_12 (K : PySem.W.Frag) : TS := (tSeq (tIfS (tOr (tTest (tOp (uNe K) (tCB (rReprQ K) (tCons (tVar 5) tNil)) (tVar 6))) (tTest (tOp (uNe K) (tLc (iList K (tVar 8)) (gName 10) tYes (tCB (uLen K) (tCons (tVar 10) tNil)) [10]) (tVar 9)))) (tRet (tC (.bl false))) tNext)
  (tDrop (tBM K "list" rAppend (tVar 7) (tCons (tTup (tCons (tC (.str "gone")) (tCons (tC (.str "a")) tNil))) tNil))))
abbrev t_l_right_10 (K : PySem.W.Frag) : TS := (tSeq (tFor (iList K (tVar 8)) (gName 10) (tDrop (tBM K "list" rAppend (tVar 10) (tCons (tC (.int 7)) tNil))))
  (t_l_right_12 K))
abbrev t_l_right_9 (K : PySem.W.Frag) : TS := (tSeq (tAsg (tLc (iList K (tVar 8)) (gName 10) tYes (tOp (uAdd K) (tCB (uLen K) (tCons (tVar 10) tNil)) (tC (.int 1))) [10]) (gName 9))
  (t_l_right_10 K))
abbrev t_l_right_8 (K : PySem.W.Frag) : TS := (tSeq (tAsg (tLc (iList K (tVar 7)) (gName 11) (tTest (tOp (uEq K) (tOp (uIx K) (tVar 11) (tC (.int 0))) (tC (.str "put")))) (tOp (uIx K) (tVar 11) (tC (.int 2))) [11]) (gName 8))
  (t_l_right_9 K))
abbrev t_l_right_6 (K : PySem.W.Frag) : TS := (tSeq (tIfS (tOr (tNot (tB (tCall (sp_l_alike K) [] E0 (tCons (tVar 7) (tCons (tVar 3) tNil))))) (tTest (tOp (uNe K) (tCB (rReprQ K) (tCons (tVar 5) tNil)) (tVar 6)))) (tRet (tC (.bl false))) tNext)
  (t_l_right_8 K))
abbrev t_l_right_5 (K : PySem.W.Frag) : TS := (tSeq (tAsg (tCallW W0 (sp_changes K) [] (tCons (tOp (uIx K) (tVar 5) (tC (.int 0))) (tCons (tOp (uIx K) (tVar 5) (tC (.int 1))) tNil))) (gName 7))
  (t_l_right_6 K))
abbrev t_l_right_4 (K : PySem.W.Frag) : TS := (tSeq (tAsg (tCB (rReprQ K) (tCons (tVar 5) tNil)) (gName 6))
  (t_l_right_5 K))
abbrev t_l_right_3 (K : PySem.W.Frag) : TS := (tSeq (tAsg (tLst (tCons (tCall (sp_l_shuffled K) [] E0 (tCons (tVar 0) (tCons (tVar 1) tNil))) (tCons (tCall (sp_l_shuffled K) [] E0 (tCons (tVar 0) (tCons (tVar 2) tNil))) tNil))) (gName 5))
  (t_l_right_4 K))
abbrev t_l_right_2 (K : PySem.W.Frag) : TS := (tSeq (tFor (iRng1 (tCons (tC (.int 2)) tNil)) (gName 4) (t_l_right_3 K))
  (tRet (tC (.bl true))))
abbrev t_l_right_1 (K : PySem.W.Frag) : TS := (tSeq (tAsg (tCall (sp_l_rows K) [] E0 (tCons (tVar 1) (tCons (tVar 2) tNil))) (gName 3))
  (t_l_right_2 K))
abbrev t_l_right (K : PySem.W.Frag) : TS := (t_l_right_1 K)
theorem pure_l_right {K : PySem.W.Frag} (vs : List V) (H : Hp) (Q : VK) (E : XK) (h : sp_l_right K vs H Q E) : t_l_right K { nx := fun _ H' => Q .non H', rt := Q } (L2.start ["_law_bag_here", "_law_elder", "_law_newer", "_law_due", "_law_turn", "_law_handed", "_law_kept_text", "_law_found", "_law_told", "_law_sizes", "_law_one", "_law_row"] vs) H := by
  obtain ⟨Rs, a_bag_here, v_a_elder, a_elder, v_a_newer, a_newer, P, rfl, S0, hf, hk⟩ := h
  show t_l_right K _ [some (V.ref a_bag_here), some v_a_elder, some v_a_newer, none, none, none, none, none, none, none, none, none] H
  refine g_seq (g_asg (g_call (g_cons (g_var rfl (g_cons (g_var rfl (g_nil (⟨_, _, _, _, _, _, rfl, (M.addA (M.addA S0 (EnF.at 2 rfl)) (EnF.at 2 rfl)), hf, fun x3 u6 H5 hf (S4 : M (da K u6 ((eL eA) x3) :: bagR a_bag_here :: da K v_a_elder ((eD iS (eL eI)) a_elder) :: da K v_a_newer ((eD iS (eL eI)) a_newer) :: Rs) H5) => ?_⟩))))))))
  refine g_nx ?_
  obtain ⟨h8, hf⟩ := hf
  refine g_seq (g_for (g_iRng1 (g_cons (g_c (g_nil (v_itR h8 ?_))))))
  refine for_rng (β := Unit) hf (fun (s9 : Unit) σ H' => ∃ (o13 : Option V) (o14 : Option V) (o15 : Option V) (o16 : Option V) (o17 : Option V) (o18 : Option V) (o19 : Option V) (o20 : Option V), σ = [some (V.ref a_bag_here), some v_a_elder, some v_a_newer, some u6, o13, o14, o15, o16, o17, o18, o19, o20] ∧ M (da K u6 ((eL eA) x3) :: bagR a_bag_here :: da K v_a_elder ((eD iS (eL eI)) a_elder) :: da K v_a_newer ((eD iS (eL eI)) a_newer) :: Rs) H') ⟨_, _, _, _, _, _, _, _, rfl, (M.sub (.cons 0 rfl (.cons 0 rfl (.cons 0 rfl (.cons 0 rfl (.refl _))))) S4)⟩ ?_ ?_
  ·
    rintro x12 s9 _ H22 kk11 ⟨o13, o14, o15, o16, o17, o18, o19, o20, rfl, S21⟩ hf
    refine g_name (g_seq (g_asg (g_lst (g_cons (g_call (g_cons (g_var rfl (g_cons (g_var rfl (g_nil (⟨_, _, _, _, _, rfl, (M.at (M.addA S21 (EnF.at 2 rfl)) 2 rfl), hf, fun x24 u27 H26 hf (S25 : M (da K u27 ((eD iS (eL eI)) x24) :: bagR a_bag_here :: da K u6 ((eL eA) x3) :: da K v_a_elder ((eD iS (eL eI)) a_elder) :: da K v_a_newer ((eD iS (eL eI)) a_newer) :: Rs) H26) => ?_⟩)))))))))))
    refine g_cons (g_call (g_cons (g_var rfl (g_cons (g_var rfl (g_nil (⟨_, _, _, _, _, rfl, (M.at (M.addA S25 (EnF.at 4 rfl)) 2 rfl), hf, fun x30 u33 H32 hf (S31 : M (da K u33 ((eD iS (eL eI)) x30) :: bagR a_bag_here :: da K u27 ((eD iS (eL eI)) x24) :: da K u6 ((eL eA) x3) :: da K v_a_elder ((eD iS (eL eI)) a_elder) :: da K v_a_newer ((eD iS (eL eI)) a_newer) :: Rs) H32) => ?_⟩)))))))
    refine g_nil (v_lsto (ds := ([x24, x30]).map (eD iS (eL eI))) S31 (EnF.consA (EnF.at 2 rfl) (EnF.consA (EnF.at 0 rfl) EnF.nilA)) (len_ok rfl) fun p35 H37 (S36 : M (acR K p35 (([x24, x30]).map (eD iS (eL eI))) :: da K u33 ((eD iS (eL eI)) x30) :: bagR a_bag_here :: da K u27 ((eD iS (eL eI)) x24) :: da K u6 ((eL eA) x3) :: da K v_a_elder ((eD iS (eL eI)) a_elder) :: da K v_a_newer ((eD iS (eL eI)) a_newer) :: Rs) H37) => ?_)
    have S39 : M (da K (V.ref p35) ((eL (eD iS (eL eI))) ([x24, x30])) :: da K u33 ((eD iS (eL eI)) x30) :: bagR a_bag_here :: da K u27 ((eD iS (eL eI)) x24) :: da K u6 ((eL eA) x3) :: da K v_a_elder ((eD iS (eL eI)) a_elder) :: da K v_a_newer ((eD iS (eL eI)) a_newer) :: Rs) H37 := acR_fixL S36
    refine g_nx ?_
    have S41 : M (da K (V.ref p35) ((eL (eD iS (eL eI))) ([x24, x30])) :: bagR a_bag_here :: da K u6 ((eL eA) x3) :: da K v_a_elder ((eD iS (eL eI)) a_elder) :: da K v_a_newer ((eD iS (eL eI)) a_newer) :: Rs) H37 := (M.drp (M.drp S39 3) 1)
    obtain ⟨h42, hf⟩ := hf
    refine g_seq (g_asg (g_cb (g_cons (g_var rfl (g_nil (v_repr (Dq.dn (M.gotA S41 0 rfl)) h42 (g_nx ?_)))))))
    refine g_seq (g_asg (g_callW (g_cons (g_op (g_var rfl (g_c ?_))))))
    obtain ⟨x43, h44, hf⟩ := hf
    refine v_ixl S41 0 rfl h44 fun u45 S46 => ?_
    refine g_cons (g_op (g_var rfl (g_c ?_)))
    obtain ⟨x48, h49, hf⟩ := hf
    refine v_ixl S46 1 rfl h49 fun u50 S51 => ?_
    refine g_nil (⟨_, _, _, _, _, _, _, rfl, (M.addA (M.addA S51 (EnF.at 0 rfl)) (EnF.at 2 rfl)), hf, fun x60 d61 v62 H64 hf (S63 : M (pt d61 (.xd [(x60.fld, v62)]) :: da K v62 x60.val :: da K u50 ((eD iS (eL eI)) x48) :: da K u45 ((eD iS (eL eI)) x43) :: da K (V.ref p35) ((eL (eD iS (eL eI))) ([x24, x30])) :: bagR a_bag_here :: da K u6 ((eL eA) x3) :: da K v_a_elder ((eD iS (eL eI)) a_elder) :: da K v_a_newer ((eD iS (eL eI)) a_newer) :: Rs) H64) => ?_, fun x55 u58 H57 hf (S56 : M (lsR (odR K) u58 x55 :: da K u50 ((eD iS (eL eI)) x48) :: da K u45 ((eD iS (eL eI)) x43) :: da K (V.ref p35) ((eL (eD iS (eL eI))) ([x24, x30])) :: bagR a_bag_here :: da K u6 ((eL eA) x3) :: da K v_a_elder ((eD iS (eL eI)) a_elder) :: da K v_a_newer ((eD iS (eL eI)) a_newer) :: Rs) H57) => ?_⟩)
    ·
      exact hf.elim
    refine g_nx ?_
    have S67 : M (lsR (odR K) u58 x55 :: da K (V.ref p35) ((eL (eD iS (eL eI))) ([x24, x30])) :: bagR a_bag_here :: da K u6 ((eL eA) x3) :: da K v_a_elder ((eD iS (eL eI)) a_elder) :: da K v_a_newer ((eD iS (eL eI)) a_newer) :: Rs) H57 := (M.drp (M.drp S56 2) 1)
    refine g_seq (g_if ?_)
    refine tt_cut hf (fun H => M (lsR (odR K) u58 x55 :: da K (V.ref p35) ((eL (eD iS (eL eI))) ([x24, x30])) :: bagR a_bag_here :: da K u6 ((eL eA) x3) :: da K v_a_elder ((eD iS (eL eI)) a_elder) :: da K v_a_newer ((eD iS (eL eI)) a_newer) :: Rs) H) (fun kk69 P70 hP71 hf => ?_) ?_
    ·
      refine g_or (g_not (g_B (g_call (g_cons (g_var rfl (g_cons (g_var rfl (g_nil ?_))))))))
      obtain ⟨h74, hf⟩ := hf
      refine ⟨_, _, _, rfl, (M.dnLO S67 0 rfl), (Dn.by_ h74.1 (Dq.dn (M.gotA S67 3 rfl))), h74.2, ?_⟩
      obtain ⟨h75, hf⟩ := hf
      refine g_bl (v_ifcF (by decide) (g_test (g_op (g_cb (g_cons (g_var rfl (g_nil (v_repr (Dq.dn (M.gotA S67 1 rfl)) h75 (g_var rfl (v_neS (g_bl ?_)))))))))))
      exact hP71 _ _ hf (M.sub (.cons 0 rfl (.cons 0 rfl (.cons 0 rfl (.cons 0 rfl (.cons 0 rfl (.cons 0 rfl (.refl _))))))) S67)
    intro c68 H77 hf S76
    refine v_iff hf (fun _ hf => ?_) (fun _ hf => ?_)
    ·
      refine g_ret (g_c ?_)
      exact hk _ _ hf (M.sub (.cons 2 rfl (.tl (.tl (.tl (.tl (.tl (.refl _))))))) S76)
    ·
      refine g_next (g_nx (g_seq (g_asg (g_lc (g_iList (g_var rfl ?_))))))
      obtain ⟨vs78, S79⟩ := lsR_W (M.at S76 0 rfl)
      have S80 : M (lsW (odR K) u58 vs78 x55 :: da K (V.ref p35) ((eL (eD iS (eL eI))) ([x24, x30])) :: bagR a_bag_here :: da K u6 ((eL eA) x3) :: da K v_a_elder ((eD iS (eL eI)) a_elder) :: da K v_a_newer ((eD iS (eL eI)) a_newer) :: Rs) H77 := S79
      refine v_itL (lsW_len (K := K) S80 0 rfl).1 ?_
      have hl96 := (lsW_len (K := K) S80 0 rfl).2
      refine lo_take (B := (vr (fun p (x : (List Int)) => acR K p (x.map eI)))) hf (M.at S80 0 rfl) (fun u91 x84 acc81 E82 r94 r95 H98 kk83 N85 hl86 S97 hf hp87 hn88 => ?_) (fun E82 acc81 H125 hf S124 => ?_)
      ·
        refine g_name (g_wipe rfl (g_test (g_op (g_op (g_var rfl (g_c ?_))))))
        obtain ⟨d100, h101, hf⟩ := hf
        refine v_ixODk S97 0 rfl h101 fun u102 (S103 : M (da K u102 d100 :: odR K u91 x84 :: lsR (vr (fun p (x : (List Int)) => acR K p (x.map eI))) E82 acc81 :: starR (odR K) r94 r95 :: pt u58 (.lst vs78) :: da K (V.ref p35) ((eL (eD iS (eL eI))) ([x24, x30])) :: bagR a_bag_here :: da K u6 ((eL eA) x3) :: da K v_a_elder ((eD iS (eL eI)) a_elder) :: da K v_a_newer ((eD iS (eL eI)) a_newer) :: Rs) H98) => ?_
        refine g_c ?_
        obtain ⟨x105, h106, hf⟩ := hf
        have S107 := M.cstA S103 0 rfl h106
        obtain rfl := (S107.gotA 0 rfl).strV
        have S108 := S107.tl
        refine v_eqS (g_bl (v_iff hf (fun _ hf => ?_) (fun _ hf => ?_)))
        ·
          refine g_op (g_var rfl (g_c ?_))
          obtain ⟨y109, h110, hf⟩ := hf
          refine v_ixOD S108 1 rfl h110 fun u111 (S112 : M (odR K u111 y109 :: da K (V.str x105) d100 :: lsR (vr (fun p (x : (List Int)) => acR K p (x.map eI))) E82 acc81 :: starR (odR K) r94 r95 :: pt u58 (.lst vs78) :: da K (V.ref p35) ((eL (eD iS (eL eI))) ([x24, x30])) :: bagR a_bag_here :: da K u6 ((eL eA) x3) :: da K v_a_elder ((eD iS (eL eI)) a_elder) :: da K v_a_newer ((eD iS (eL eI)) a_newer) :: Rs) H98) => ?_
          obtain ⟨x114, h115, hf⟩ := hf
          obtain ⟨p116, rfl, S117⟩ := M.odAc (M.at S112 0 rfl) h115
          have S119 : M (acR K p116 (x114.map eI) :: da K (V.str x105) d100 :: lsR (vr (fun p (x : (List Int)) => acR K p (x.map eI))) E82 acc81 :: starR (odR K) r94 r95 :: pt u58 (.lst vs78) :: da K (V.ref p35) ((eL (eD iS (eL eI))) ([x24, x30])) :: bagR a_bag_here :: da K u6 ((eL eA) x3) :: da K v_a_elder ((eD iS (eL eI)) a_elder) :: da K v_a_newer ((eD iS (eL eI)) a_newer) :: Rs) H98 := S117
          have S121 : M (vr (fun p (x : (List Int)) => acR K p (x.map eI)) (V.ref p116) x114 :: da K (V.str x105) d100 :: lsR (vr (fun p (x : (List Int)) => acR K p (x.map eI))) E82 acc81 :: starR (odR K) r94 r95 :: pt u58 (.lst vs78) :: da K (V.ref p35) ((eL (eD iS (eL eI))) ([x24, x30])) :: bagR a_bag_here :: da K u6 ((eL eA) x3) :: da K v_a_elder ((eD iS (eL eI)) a_elder) :: da K v_a_newer ((eD iS (eL eI)) a_newer) :: Rs) H98 := M.vrC (M.at S119 0 rfl)
          refine lsR_put (M.sub (.cons 0 rfl (.cons 1 rfl (.refl _))) S121) hl86 fun H123 (S122 : M (lsR (vr (fun p (x : (List Int)) => acR K p (x.map eI))) E82 (acc81 ++ [x114]) :: da K (V.str x105) d100 :: starR (odR K) r94 r95 :: pt u58 (.lst vs78) :: da K (V.ref p35) ((eL (eD iS (eL eI))) ([x24, x30])) :: bagR a_bag_here :: da K u6 ((eL eA) x3) :: da K v_a_elder ((eD iS (eL eI)) a_elder) :: da K v_a_newer ((eD iS (eL eI)) a_newer) :: Rs) H123) => ?_
          exact hp87 _ _ hf (M.sub (.cons 0 rfl (.cons 1 rfl (.cons 1 rfl (.cons 1 rfl (.cons 1 rfl (.cons 1 rfl (.cons 1 rfl (.cons 1 rfl (.tl (.refl _)))))))))) S122)
        ·
          exact hn88 _ hf (M.sub (.cons 2 rfl (.cons 2 rfl (.cons 2 rfl (.cons 2 rfl (.cons 2 rfl (.cons 2 rfl (.cons 2 rfl (.cons 2 rfl (.tl (.tl (.refl _))))))))))) S108)
      have S127 : M (lsR goneR u58 (x55.map fun _ => ()) :: lsR (vr (fun p (x : (List Int)) => acR K p (x.map eI))) E82 acc81 :: da K (V.ref p35) ((eL (eD iS (eL eI))) ([x24, x30])) :: bagR a_bag_here :: da K u6 ((eL eA) x3) :: da K v_a_elder ((eD iS (eL eI)) a_elder) :: da K v_a_newer ((eD iS (eL eI)) a_newer) :: Rs) H125 := lsR_gone' hl96 (M.at S124 1 rfl)
      refine g_nx ?_
      refine g_seq (g_asg (g_lc (g_iList (g_var rfl ?_))))
      obtain ⟨vs128, S129⟩ := lsR_W (M.at S127 1 rfl)
      have S130 : M (lsW (vr (fun p (x : (List Int)) => acR K p (x.map eI))) E82 vs128 acc81 :: lsR goneR u58 (x55.map fun _ => ()) :: da K (V.ref p35) ((eL (eD iS (eL eI))) ([x24, x30])) :: bagR a_bag_here :: da K u6 ((eL eA) x3) :: da K v_a_elder ((eD iS (eL eI)) a_elder) :: da K v_a_newer ((eD iS (eL eI)) a_newer) :: Rs) H125 := S129
      refine v_itL (lsW_len (K := K) S130 0 rfl).1 ?_
      refine lc_lsX (K := K) (e' := eI) hf S130 (fun _ S => lsW_len (K := K) S 0 rfl) (fun i140 u141 x134 acc131 E132 H148 kk133 N135 hl136 S147 hv142 hx143 hf hp137 hn138 => ?_) (fun E132 acc131 H163 hf S162 => ?_)
      ·
        have S152 : M (vr (fun p (x : (List Int)) => acR K p (x.map eI)) u141 x134 :: pt E82 (.lst vs128) :: starR (vr (fun p (x : (List Int)) => acR K p (x.map eI))) (vs128.eraseIdx i140) (acc81.eraseIdx i140) :: acR K E132 (acc131.map eI) :: lsR goneR u58 (x55.map fun _ => ()) :: da K (V.ref p35) ((eL (eD iS (eL eI))) ([x24, x30])) :: bagR a_bag_here :: da K u6 ((eL eA) x3) :: da K v_a_elder ((eD iS (eL eI)) a_elder) :: da K v_a_newer ((eD iS (eL eI)) a_newer) :: Rs) H148 := lsW_open S147 1 rfl hv142 hx143
        obtain ⟨p153, rfl, S154⟩ := M.vrO S152
        have S156 : M (acR K p153 (x134.map eI) :: pt E82 (.lst vs128) :: starR (vr (fun p (x : (List Int)) => acR K p (x.map eI))) (vs128.eraseIdx i140) (acc81.eraseIdx i140) :: acR K E132 (acc131.map eI) :: lsR goneR u58 (x55.map fun _ => ()) :: da K (V.ref p35) ((eL (eD iS (eL eI))) ([x24, x30])) :: bagR a_bag_here :: da K u6 ((eL eA) x3) :: da K v_a_elder ((eD iS (eL eI)) a_elder) :: da K v_a_newer ((eD iS (eL eI)) a_newer) :: Rs) H148 := S154
        refine g_name (g_wipe rfl (g_yes (v_ifT (g_op (g_cb (g_cons (g_var rfl (g_nil (v_lenN (M.gotO S156 0 rfl) (g_c (v_add ?_)))))))))))
        have S158 : M (vr (fun p (x : (List Int)) => acR K p (x.map eI)) (V.ref p153) x134 :: pt E82 (.lst vs128) :: starR (vr (fun p (x : (List Int)) => acR K p (x.map eI))) (vs128.eraseIdx i140) (acc81.eraseIdx i140) :: acR K E132 (acc131.map eI) :: lsR goneR u58 (x55.map fun _ => ()) :: da K (V.ref p35) ((eL (eD iS (eL eI))) ([x24, x30])) :: bagR a_bag_here :: da K u6 ((eL eA) x3) :: da K v_a_elder ((eD iS (eL eI)) a_elder) :: da K v_a_newer ((eD iS (eL eI)) a_newer) :: Rs) H148 := M.vrC (M.at S156 0 rfl)
        have S159 : M (lsW (vr (fun p (x : (List Int)) => acR K p (x.map eI))) E82 vs128 acc81 :: acR K E132 (acc131.map eI) :: lsR goneR u58 (x55.map fun _ => ()) :: da K (V.ref p35) ((eL (eD iS (eL eI))) ([x24, x30])) :: bagR a_bag_here :: da K u6 ((eL eA) x3) :: da K v_a_elder ((eD iS (eL eI)) a_elder) :: da K v_a_newer ((eD iS (eL eI)) a_newer) :: Rs) H148 := lsW_same hv142 hx143 (M.sub (.cons 0 rfl (.cons 0 rfl (.cons 0 rfl (.refl _)))) S158)
        refine acR_put S159 1 rfl (EnF.all fun _ => .int _) hl136 fun H161 (S160 : M (acR K E132 (acc131.map eI ++ [eI (((x134).length : Int) + 1)]) :: lsW (vr (fun p (x : (List Int)) => acR K p (x.map eI))) E82 vs128 acc81 :: lsR goneR u58 (x55.map fun _ => ()) :: da K (V.ref p35) ((eL (eD iS (eL eI))) ([x24, x30])) :: bagR a_bag_here :: da K u6 ((eL eA) x3) :: da K v_a_elder ((eD iS (eL eI)) a_elder) :: da K v_a_newer ((eD iS (eL eI)) a_newer) :: Rs) H161) => ?_
        exact hp137 _ _ hf (M.sub (.cons 0 rfl (.cons 0 rfl (.cons 0 rfl (.cons 0 rfl (.cons 0 rfl (.cons 0 rfl (.cons 0 rfl (.cons 0 rfl (.refl _))))))))) S160)
      have S165 : M (lsR (vr (fun p (x : (List Int)) => acR K p (x.map eI))) E82 acc81 :: acR K E132 (acc131.map eI) :: lsR goneR u58 (x55.map fun _ => ()) :: da K (V.ref p35) ((eL (eD iS (eL eI))) ([x24, x30])) :: bagR a_bag_here :: da K u6 ((eL eA) x3) :: da K v_a_elder ((eD iS (eL eI)) a_elder) :: da K v_a_newer ((eD iS (eL eI)) a_newer) :: Rs) H163 := lsW_R (M.at S162 1 rfl)
      have S166 : M (da K (V.ref E132) ((eL eI) acc131) :: lsR (vr (fun p (x : (List Int)) => acR K p (x.map eI))) E82 acc81 :: lsR goneR u58 (x55.map fun _ => ()) :: da K (V.ref p35) ((eL (eD iS (eL eI))) ([x24, x30])) :: bagR a_bag_here :: da K u6 ((eL eA) x3) :: da K v_a_elder ((eD iS (eL eI)) a_elder) :: da K v_a_newer ((eD iS (eL eI)) a_newer) :: Rs) H163 := acR_fixL (S165.at 1 rfl)
      refine g_nx ?_
      refine g_seq (g_for (g_iList (g_var rfl ?_)))
      obtain ⟨vs168, S169⟩ := lsR_W (M.at S166 1 rfl)
      have S170 : M (lsW (vr (fun p (x : (List Int)) => acR K p (x.map eI))) E82 vs168 acc81 :: da K (V.ref E132) ((eL eI) acc131) :: lsR goneR u58 (x55.map fun _ => ()) :: da K (V.ref p35) ((eL (eD iS (eL eI))) ([x24, x30])) :: bagR a_bag_here :: da K u6 ((eL eA) x3) :: da K v_a_elder ((eD iS (eL eI)) a_elder) :: da K v_a_newer ((eD iS (eL eI)) a_newer) :: Rs) H163 := S169
      refine v_itL (lsW_len (K := K) S170 0 rfl).1 ?_
      refine for_lsI (β := (List (List Int))) hf (fun (s171 : (List (List Int))) σ H' => ∃ (o180 : Option V), σ = [some (V.ref a_bag_here), some v_a_elder, some v_a_newer, some u6, some (V.int x12), some (V.ref p35), some (V.str (PyData.shown ((eL (eD iS (eL eI))) ([x24, x30])))), some (V.ref u58), some (V.ref E82), some (V.ref E132), o180, o20] ∧ M (lsW (vr (fun p (x : (List Int)) => acR K p (x.map eI))) E82 vs168 s171 :: da K (V.ref E132) ((eL eI) acc131) :: lsR goneR u58 (x55.map fun _ => ()) :: da K (V.ref p35) ((eL (eD iS (eL eI))) ([x24, x30])) :: bagR a_bag_here :: da K u6 ((eL eA) x3) :: da K v_a_elder ((eD iS (eL eI)) a_elder) :: da K v_a_newer ((eD iS (eL eI)) a_newer) :: Rs) H') ⟨_, rfl, (M.sub (.cons 0 rfl (.cons 0 rfl (.cons 0 rfl (.cons 0 rfl (.cons 0 rfl (.cons 0 rfl (.cons 0 rfl (.cons 0 rfl (.refl _))))))))) S170)⟩ (lsW_len (K := K) S170 0 rfl).2 (fun _ _ _ h => by obtain ⟨_, _, S⟩ := h; exact (lsW_len (K := K) S 0 rfl).1) ?_ ?_
      ·
        rintro i175 u176 s171 _ H182 kk173 ⟨o180, rfl, S181⟩ hv177 hf
        obtain ⟨x174, hx178, hf⟩ := hf
        have S186 : M (vr (fun p (x : (List Int)) => acR K p (x.map eI)) u176 x174 :: pt E82 (.lst vs168) :: starR (vr (fun p (x : (List Int)) => acR K p (x.map eI))) (vs168.eraseIdx i175) (s171.eraseIdx i175) :: da K (V.ref E132) ((eL eI) acc131) :: lsR goneR u58 (x55.map fun _ => ()) :: da K (V.ref p35) ((eL (eD iS (eL eI))) ([x24, x30])) :: bagR a_bag_here :: da K u6 ((eL eA) x3) :: da K v_a_elder ((eD iS (eL eI)) a_elder) :: da K v_a_newer ((eD iS (eL eI)) a_newer) :: Rs) H182 := lsW_open S181 0 rfl hv177 hx178
        obtain ⟨p187, rfl, S188⟩ := M.vrO S186
        have S190 : M (acR K p187 (x174.map eI) :: pt E82 (.lst vs168) :: starR (vr (fun p (x : (List Int)) => acR K p (x.map eI))) (vs168.eraseIdx i175) (s171.eraseIdx i175) :: da K (V.ref E132) ((eL eI) acc131) :: lsR goneR u58 (x55.map fun _ => ()) :: da K (V.ref p35) ((eL (eD iS (eL eI))) ([x24, x30])) :: bagR a_bag_here :: da K u6 ((eL eA) x3) :: da K v_a_elder ((eD iS (eL eI)) a_elder) :: da K v_a_newer ((eD iS (eL eI)) a_newer) :: Rs) H182 := S188
        refine g_name (g_drop (g_bm (g_var rfl (M.tyO S190 0 rfl (g_cons (g_c (g_nil ?_)))))))
        obtain ⟨h191, hf⟩ := hf
        refine v_apl (e := eI) (x := 7) S190 0 rfl (EnF.all fun _ => .int _) h191 fun H193 (S192 : M (acR K p187 ((sno x174 7).map eI) :: pt E82 (.lst vs168) :: starR (vr (fun p (x : (List Int)) => acR K p (x.map eI))) (vs168.eraseIdx i175) (s171.eraseIdx i175) :: da K (V.ref E132) ((eL eI) acc131) :: lsR goneR u58 (x55.map fun _ => ()) :: da K (V.ref p35) ((eL (eD iS (eL eI))) ([x24, x30])) :: bagR a_bag_here :: da K u6 ((eL eA) x3) :: da K v_a_elder ((eD iS (eL eI)) a_elder) :: da K v_a_newer ((eD iS (eL eI)) a_newer) :: Rs) H193) => ?_
        have S196 : M (vr (fun p (x : (List Int)) => acR K p (x.map eI)) (V.ref p187) (sno x174 7) :: pt E82 (.lst vs168) :: starR (vr (fun p (x : (List Int)) => acR K p (x.map eI))) (vs168.eraseIdx i175) (s171.eraseIdx i175) :: da K (V.ref E132) ((eL eI) acc131) :: lsR goneR u58 (x55.map fun _ => ()) :: da K (V.ref p35) ((eL (eD iS (eL eI))) ([x24, x30])) :: bagR a_bag_here :: da K u6 ((eL eA) x3) :: da K v_a_elder ((eD iS (eL eI)) a_elder) :: da K v_a_newer ((eD iS (eL eI)) a_newer) :: Rs) H193 := M.vrC (M.at S192 0 rfl)
        have S197 : M (lsW (vr (fun p (x : (List Int)) => acR K p (x.map eI))) E82 vs168 (s171.set i175 (sno x174 7)) :: da K (V.ref E132) ((eL eI) acc131) :: lsR goneR u58 (x55.map fun _ => ()) :: da K (V.ref p35) ((eL (eD iS (eL eI))) ([x24, x30])) :: bagR a_bag_here :: da K u6 ((eL eA) x3) :: da K v_a_elder ((eD iS (eL eI)) a_elder) :: da K v_a_newer ((eD iS (eL eI)) a_newer) :: Rs) H193 := lsW_close hv177 hx178 (M.sub (.cons 0 rfl (.cons 0 rfl (.cons 0 rfl (.refl _)))) S196)
        exact ⟨_, hf, _, rfl, (M.sub (.cons 0 rfl (.cons 0 rfl (.cons 0 rfl (.cons 0 rfl (.cons 0 rfl (.cons 0 rfl (.cons 0 rfl (.cons 0 rfl (.refl _))))))))) S197)⟩
      rintro s171 _ H199 hf ⟨o180, rfl, S198⟩
      have S200 : M (lsR (vr (fun p (x : (List Int)) => acR K p (x.map eI))) E82 s171 :: da K (V.ref E132) ((eL eI) acc131) :: lsR goneR u58 (x55.map fun _ => ()) :: da K (V.ref p35) ((eL (eD iS (eL eI))) ([x24, x30])) :: bagR a_bag_here :: da K u6 ((eL eA) x3) :: da K v_a_elder ((eD iS (eL eI)) a_elder) :: da K v_a_newer ((eD iS (eL eI)) a_newer) :: Rs) H199 := lsW_R (M.at S198 0 rfl)
      refine g_nx ?_
      refine g_seq (g_if ?_)
      refine tt_cut hf (fun H => M (lsR (vr (fun p (x : (List Int)) => acR K p (x.map eI))) E82 s171 :: da K (V.ref E132) ((eL eI) acc131) :: lsR goneR u58 (x55.map fun _ => ()) :: da K (V.ref p35) ((eL (eD iS (eL eI))) ([x24, x30])) :: bagR a_bag_here :: da K u6 ((eL eA) x3) :: da K v_a_elder ((eD iS (eL eI)) a_elder) :: da K v_a_newer ((eD iS (eL eI)) a_newer) :: Rs) H) (fun kk202 P203 hP204 hf => ?_) ?_
      ·
        obtain ⟨h207, hf⟩ := hf
        refine g_or (g_test (g_op (g_cb (g_cons (g_var rfl (g_nil (v_repr (Dq.dn (M.gotA S200 3 rfl)) h207 (g_var rfl (v_neS (g_bl (v_iff hf (fun _ hf => ?_) (fun _ hf => ?_))))))))))))
        ·
          exact hP204 _ _ hf (M.sub (.cons 0 rfl (.cons 0 rfl (.cons 0 rfl (.cons 0 rfl (.cons 0 rfl (.cons 0 rfl (.cons 0 rfl (.cons 0 rfl (.refl _))))))))) S200)
        ·
          refine g_test (g_op (g_lc (g_iList (g_var rfl ?_))))
          obtain ⟨vs208, S209⟩ := lsR_W (M.at S200 0 rfl)
          have S210 : M (lsW (vr (fun p (x : (List Int)) => acR K p (x.map eI))) E82 vs208 s171 :: da K (V.ref E132) ((eL eI) acc131) :: lsR goneR u58 (x55.map fun _ => ()) :: da K (V.ref p35) ((eL (eD iS (eL eI))) ([x24, x30])) :: bagR a_bag_here :: da K u6 ((eL eA) x3) :: da K v_a_elder ((eD iS (eL eI)) a_elder) :: da K v_a_newer ((eD iS (eL eI)) a_newer) :: Rs) H199 := S209
          refine v_itL (lsW_len (K := K) S210 0 rfl).1 ?_
          refine lc_lsX (K := K) (e' := eI) hf S210 (fun _ S => lsW_len (K := K) S 0 rfl) (fun i220 u221 x214 acc211 E212 H228 kk213 N215 hl216 S227 hv222 hx223 hf hp217 hn218 => ?_) (fun E212 acc211 H243 hf S242 => ?_)
          ·
            have S232 : M (vr (fun p (x : (List Int)) => acR K p (x.map eI)) u221 x214 :: pt E82 (.lst vs208) :: starR (vr (fun p (x : (List Int)) => acR K p (x.map eI))) (vs208.eraseIdx i220) (s171.eraseIdx i220) :: acR K E212 (acc211.map eI) :: da K (V.ref E132) ((eL eI) acc131) :: lsR goneR u58 (x55.map fun _ => ()) :: da K (V.ref p35) ((eL (eD iS (eL eI))) ([x24, x30])) :: bagR a_bag_here :: da K u6 ((eL eA) x3) :: da K v_a_elder ((eD iS (eL eI)) a_elder) :: da K v_a_newer ((eD iS (eL eI)) a_newer) :: Rs) H228 := lsW_open S227 1 rfl hv222 hx223
            obtain ⟨p233, rfl, S234⟩ := M.vrO S232
            have S236 : M (acR K p233 (x214.map eI) :: pt E82 (.lst vs208) :: starR (vr (fun p (x : (List Int)) => acR K p (x.map eI))) (vs208.eraseIdx i220) (s171.eraseIdx i220) :: acR K E212 (acc211.map eI) :: da K (V.ref E132) ((eL eI) acc131) :: lsR goneR u58 (x55.map fun _ => ()) :: da K (V.ref p35) ((eL (eD iS (eL eI))) ([x24, x30])) :: bagR a_bag_here :: da K u6 ((eL eA) x3) :: da K v_a_elder ((eD iS (eL eI)) a_elder) :: da K v_a_newer ((eD iS (eL eI)) a_newer) :: Rs) H228 := S234
            refine g_name (g_wipe rfl (g_yes (v_ifT (g_cb (g_cons (g_var rfl (g_nil (v_lenN (M.gotO S236 0 rfl) ?_))))))))
            have S238 : M (vr (fun p (x : (List Int)) => acR K p (x.map eI)) (V.ref p233) x214 :: pt E82 (.lst vs208) :: starR (vr (fun p (x : (List Int)) => acR K p (x.map eI))) (vs208.eraseIdx i220) (s171.eraseIdx i220) :: acR K E212 (acc211.map eI) :: da K (V.ref E132) ((eL eI) acc131) :: lsR goneR u58 (x55.map fun _ => ()) :: da K (V.ref p35) ((eL (eD iS (eL eI))) ([x24, x30])) :: bagR a_bag_here :: da K u6 ((eL eA) x3) :: da K v_a_elder ((eD iS (eL eI)) a_elder) :: da K v_a_newer ((eD iS (eL eI)) a_newer) :: Rs) H228 := M.vrC (M.at S236 0 rfl)
            have S239 : M (lsW (vr (fun p (x : (List Int)) => acR K p (x.map eI))) E82 vs208 s171 :: acR K E212 (acc211.map eI) :: da K (V.ref E132) ((eL eI) acc131) :: lsR goneR u58 (x55.map fun _ => ()) :: da K (V.ref p35) ((eL (eD iS (eL eI))) ([x24, x30])) :: bagR a_bag_here :: da K u6 ((eL eA) x3) :: da K v_a_elder ((eD iS (eL eI)) a_elder) :: da K v_a_newer ((eD iS (eL eI)) a_newer) :: Rs) H228 := lsW_same hv222 hx223 (M.sub (.cons 0 rfl (.cons 0 rfl (.cons 0 rfl (.refl _)))) S238)
            refine acR_put S239 1 rfl (EnF.all fun _ => .int _) hl216 fun H241 (S240 : M (acR K E212 (acc211.map eI ++ [eI ((x214).length : Int)]) :: lsW (vr (fun p (x : (List Int)) => acR K p (x.map eI))) E82 vs208 s171 :: da K (V.ref E132) ((eL eI) acc131) :: lsR goneR u58 (x55.map fun _ => ()) :: da K (V.ref p35) ((eL (eD iS (eL eI))) ([x24, x30])) :: bagR a_bag_here :: da K u6 ((eL eA) x3) :: da K v_a_elder ((eD iS (eL eI)) a_elder) :: da K v_a_newer ((eD iS (eL eI)) a_newer) :: Rs) H241) => ?_
            exact hp217 _ _ hf (M.sub (.cons 0 rfl (.cons 0 rfl (.cons 0 rfl (.cons 0 rfl (.cons 0 rfl (.cons 0 rfl (.cons 0 rfl (.cons 0 rfl (.cons 0 rfl (.refl _)))))))))) S240)
          have S245 : M (lsR (vr (fun p (x : (List Int)) => acR K p (x.map eI))) E82 s171 :: acR K E212 (acc211.map eI) :: da K (V.ref E132) ((eL eI) acc131) :: lsR goneR u58 (x55.map fun _ => ()) :: da K (V.ref p35) ((eL (eD iS (eL eI))) ([x24, x30])) :: bagR a_bag_here :: da K u6 ((eL eA) x3) :: da K v_a_elder ((eD iS (eL eI)) a_elder) :: da K v_a_newer ((eD iS (eL eI)) a_newer) :: Rs) H243 := lsW_R (M.at S242 1 rfl)
          have S246 : M (da K (V.ref E212) ((eL eI) acc211) :: lsR (vr (fun p (x : (List Int)) => acR K p (x.map eI))) E82 s171 :: da K (V.ref E132) ((eL eI) acc131) :: lsR goneR u58 (x55.map fun _ => ()) :: da K (V.ref p35) ((eL (eD iS (eL eI))) ([x24, x30])) :: bagR a_bag_here :: da K u6 ((eL eA) x3) :: da K v_a_elder ((eD iS (eL eI)) a_elder) :: da K v_a_newer ((eD iS (eL eI)) a_newer) :: Rs) H243 := acR_fixL (S245.at 1 rfl)
          refine g_var rfl (v_neLI (M.gotA S246 0 rfl) (M.gotA S246 2 rfl) (g_bl ?_))
          exact hP204 _ _ hf (M.sub (.cons 1 rfl (.cons 1 rfl (.cons 1 rfl (.cons 1 rfl (.cons 1 rfl (.cons 1 rfl (.cons 1 rfl (.cons 1 rfl (.tl (.refl _)))))))))) S246)
      intro c201 H249 hf S248
      refine v_iff hf (fun _ hf => ?_) (fun _ hf => ?_)
      ·
        refine g_ret (g_c ?_)
        exact hk _ _ hf (M.sub (.cons 4 rfl (.tl (.tl (.tl (.tl (.tl (.tl (.tl (.refl _))))))))) S248)
      ·
        refine g_next (g_nx (g_drop (g_bm (g_var rfl (M.tyLs S248 2 rfl (g_cons (g_tup (g_cons (g_c (g_cons (g_c (g_nil (v_tupq S248 (EnF.consA (EnF.all fun _ => .str _) (EnF.consA (EnF.all fun _ => .str _) EnF.nilA)) (len_ok rfl) fun p250 H252 (S251 : M (da K (V.ref p250) ((eP eS eS) (("gone" : Str), ("a" : Str))) :: lsR (vr (fun p (x : (List Int)) => acR K p (x.map eI))) E82 s171 :: da K (V.ref E132) ((eL eI) acc131) :: lsR goneR u58 (x55.map fun _ => ()) :: da K (V.ref p35) ((eL (eD iS (eL eI))) ([x24, x30])) :: bagR a_bag_here :: da K u6 ((eL eA) x3) :: da K v_a_elder ((eD iS (eL eI)) a_elder) :: da K v_a_newer ((eD iS (eL eI)) a_newer) :: Rs) H252) => ?_)))))))))))))
        refine g_nil ?_
        obtain ⟨h254, hf⟩ := hf
        refine v_apGone S251 3 rfl h254 fun H256 (S255 : M (lsR goneR u58 (sno (x55.map fun _ => ()) ()) :: da K (V.ref p250) ((eP eS eS) (("gone" : Str), ("a" : Str))) :: lsR (vr (fun p (x : (List Int)) => acR K p (x.map eI))) E82 s171 :: da K (V.ref E132) ((eL eI) acc131) :: da K (V.ref p35) ((eL (eD iS (eL eI))) ([x24, x30])) :: bagR a_bag_here :: da K u6 ((eL eA) x3) :: da K v_a_elder ((eD iS (eL eI)) a_elder) :: da K v_a_newer ((eD iS (eL eI)) a_newer) :: Rs) H256) => ?_
        exact ⟨_, hf, _, _, _, _, _, _, _, _, rfl, (M.sub (.cons 6 rfl (.cons 5 rfl (.cons 5 rfl (.cons 5 rfl (.tl (.tl (.tl (.tl (.tl (.refl _)))))))))) S255)⟩
  rintro s9 _ H259 hf ⟨o13, o14, o15, o16, o17, o18, o19, o20, rfl, S258⟩
  refine g_nx ?_
  refine g_ret (g_c ?_)
  exact hk _ _ hf (M.sub (.cons 1 rfl (.tl (.tl (.tl (.refl _))))) S258)
theorem pk_same {κ α : Type} [DecidableEq κ] {m : List (κ × α)} (nd : (ks m).Nodup) {k : κ} {x : α} (h : lk m k = some x) : pk m k x = m := by
  refine dict_ext (nd_pk nd) (ks_pk_old (by rw [h]; rfl)) fun j => ?_
  rw [lk_pk]
  by_cases z : j = k
  · rw [if_pos z, z, h]
  · rw [if_neg z]
theorem jn_ok {β : Type} {f : (β → Prop) → Prop} {k : β → Prop} (G : β → Prop) (h1 : ∀ kk : β → Prop, (∀ b, G b → kk b) → f kk) (h2 : ∀ b, G b → k b) : jn f k := h1 k h2
theorem jn2_ok {β γ : Type} {f : (β → γ → Prop) → Prop} {k : β → γ → Prop} (G : β → γ → Prop) (h1 : ∀ kk : β → γ → Prop, (∀ b c, G b c → kk b c) → f kk) (h2 : ∀ b c, G b c → k b c) : jn2 f k := h1 k h2
/-! ### names, dicts, rows, plain -/
theorem is_name_ok {s : Str} {P : Bool → Prop} (g : GN s) (h : P true) : p_is_name s P := by
  unfold p_is_name jn
  obtain ⟨h1, h2, h3⟩ := g
  refine ⟨by omega, ?_⟩
  rw [if_pos (by simp; omega)]
  dsimp only
  rw [if_neg (by simp; omega)]
  refine forD_inv (fun _ _ => True) (n := 0) trivial (fun i x s' kk hx _ hk => ?_) fun _ _ => h
  obtain ⟨c, hc, rfl⟩ := List.mem_map.mp (List.mem_of_getElem? hx)
  have hr := h3 c hc
  refine ⟨true, ?_, ?_⟩
  · show some (decide (c ∈ ("abcdefghijklmnopqrstuvwxyz" : Str).cps.toList)) = some true
    congr 1
    exact decide_eq_true (letters_mem hr)
  · show if (!true) = true then _ else _
    exact hk () trivial
theorem are_wholes_ok {ns : List Int} {P : Bool → Prop} (hl : ns.length ≤ 60) (h : P true) : p_are_wholes ns P := by
  unfold p_are_wholes jn
  dsimp only
  rw [if_pos (by simp only [decide_eq_true_eq]; omega)]
  refine ⟨by omega, lcD_map (fun _ => true) (fun x hx kk hk => ?_) ?_⟩
  · unfold p_is_whole
    exact hk
  · have : (([] : List Bool) ++ ns.map fun _ => true).all id = true := by simp
    rw [this]
    exact h
theorem names_ok {k : Int} (hk0 : 0 ≤ k ∧ k ≤ 12) {P : List Str → Prop} (h : ∀ ns : List Str, ns.length = k.toNat → (∀ s ∈ ns, GN s) → P ns) : p_l_names k P := by
  unfold p_l_names
  refine tk (by decide) fun pick l1 u1 => tk (by decide) fun turn l2 u2 => tk (by decide) fun sz l3 u3 => tk (by omega) fun at_ l4 u4 => ?_
  have hz : (rng (1 + sz)).length = (1 + sz).toNat := rng_len _
  refine ⟨by omega, by omega, lcD_all G1 (fun x _ kk hk => tk (by decide) fun v lv uv => ?_) (fun _ h => nomatch h) fun base hb hl => ?_⟩
  · obtain ⟨c, e, g⟩ := letter_at lv uv
    exact ⟨c, e, hk c g⟩
  have hbl : base.length = (1 + sz).toNat := by rw [hl, hz]; simp
  split
  · refine ⟨by decide, by decide, h _ ?_ ?_⟩
    · rw [cut_lo (by omega), cut_hi hk0.1, List.length_take, List.length_drop]
      show min k.toNat (24 - (turn % 12).toNat) = k.toNat
      have : turn % 12 < 12 := by omega
      have : 0 ≤ turn % 12 := by omega
      omega
    · intro s hs
      rw [cut_lo (by omega), cut_hi hk0.1] at hs
      have hs2 := List.mem_of_mem_drop (List.mem_of_mem_take hs)
      rcases List.mem_append.mp hs2 with z | z
      · exact words_ok s z
      · exact words_ok s z
  · refine ⟨by omega, by rw [rng_len]; omega, lcD_all GN (fun x hx kk hk => ?_) (fun _ h => nomatch h) fun ys hy hyl => h ys ?_ hy⟩
    · obtain ⟨c, e, g⟩ := letter_at (i := (turn + x) % 26) (by omega) (by omega)
      have e1 : cutL base none (some at_) = base.take at_.toNat := cut_hi l4
      have e2 : cutL base (some (at_ + 1)) none = base.drop (at_ + 1).toNat := cut_lo (by omega)
      have gl : (cat (cat (cutL base none (some at_)) [c]) (cutL base (some (at_ + 1)) none)).length = base.length := by
        rw [e1, e2]
        show ((base.take at_.toNat ++ [c]) ++ base.drop (at_ + 1).toNat).length = _
        rw [List.length_append, List.length_append, List.length_take, List.length_drop]
        simp
        omega
      have ga : ∀ y ∈ cat (cat (cutL base none (some at_)) [c]) (cutL base (some (at_ + 1)) none), G1 y := by
        rw [e1, e2]
        intro y hy
        rcases List.mem_append.mp hy with hy | hy
        · rcases List.mem_append.mp hy with hy | hy
          · exact hb y (List.mem_of_mem_take hy)
          · rw [show y = c by simpa using hy]
            exact g
        · exact hb y (List.mem_of_mem_drop hy)
      have gj : GN (Txt.join ("" : Str) (cat (cat (cutL base none (some at_)) [c]) (cutL base (some (at_ + 1)) none))) := join_GN ga (by rw [gl]; omega) (by rw [gl]; omega)
      have sm : ∀ l : List Str, (∀ y ∈ l, G1 y) → (l.map (·.length)).sum = l.length := by
        intro l hl
        induction l with
        | nil => rfl
        | cons y r ih =>
          obtain ⟨n, rfl, _⟩ := hl y List.mem_cons_self
          rw [List.map_cons, List.sum_cons, ih fun z hz => hl z (List.mem_cons_of_mem _ hz), List.length_cons]
          show 1 + _ = _
          omega
      refine ⟨by decide, c, e, ?_, ?_, ?_, hk _ gj⟩
      · rw [e1, List.length_take]
        simp
        omega
      · have := gl
        unfold cat at this ⊢
        rw [List.length_append] at this
        omega
      · rw [sm _ ga, gl]
        show base.length + base.length * 0 ≤ _
        omega
    · rw [hyl, rng_len]
      simp
abbrev Fs := List (Str × List Int)
def GV (ns : List Int) : Prop := ns.length ≤ 60 ∧ ∀ n ∈ ns, n.natAbs < 10 ^ 31
structure Nms (ns : List Str) : Prop where
  gn : ∀ s ∈ ns, GN s
  ln : ns.length ≤ 120
structure GFs (ns : List Str) (m : Fs) : Prop where
  nd : (ks m).Nodup
  nm : ∀ q ∈ m, q.1 ∈ ns ∧ GV q.2
inductive Rw where
  | gone (n : Str)
  | put (n : Str) (v : List Int)
def Rw.nm : Rw → Str
  | .gone n => n
  | .put n _ => n
def rowD : Rw → PyData
  | .gone n => eP eS eS (("gone" : Str), n)
  | .put n v => eT3 eS eS (eL eI) (("put" : Str), n, v)
def GRw (ns : List Str) (r : Rw) : Prop := r.nm ∈ ns ∧ ∀ n v, r = .put n v → GV v
section
variable {ns : List Str} {m : Fs}
theorem GFs.mem (g : GFs ns m) {k : Str} (h : k ∈ ks m) : k ∈ ns := by
  obtain ⟨q, hq, rfl⟩ := List.mem_map.mp h
  exact (g.nm q hq).1
theorem GFs.len (g : GFs ns m) (N : Nms ns) : m.length ≤ 120 := by
  have := nd_le g.nd fun x hx => g.mem hx
  rw [ks_len] at this
  exact Nat.le_trans this N.ln
theorem GFs.gv (g : GFs ns m) {k : Str} {v : List Int} (h : lk m k = some v) : GV v := (g.nm _ (lk_mem h)).2
theorem GFs.nil : GFs ns [] := ⟨List.nodup_nil, fun q hq => absurd hq (by simp)⟩
theorem GFs.pk (g : GFs ns m) {k : Str} {v : List Int} (hk : k ∈ ns) (hv : GV v) : GFs ns (pk m k v) := by
  refine ⟨nd_pk g.nd, fun q hq => ?_⟩
  rcases mem_pk hq with h | ⟨h, _⟩ | h
  · rw [h]; exact ⟨hk, hv⟩
  · exact g.nm q h
  · exact g.nm q h
theorem GFs.dk (g : GFs ns m) (k : Str) : GFs ns (dk m k) := ⟨nd_dk g.nd, fun q hq => g.nm q (mem_dk hq).1⟩
theorem albn_ok {P : Bool → Prop} (g : GFs ns m) (N : Nms ns) (hl : m.length ≤ 60) (h : P true) : p_are_lists_by_name m P := by
  unfold p_are_lists_by_name
  rw [if_neg (by simp; omega)]
  refine ⟨by rw [ks_len]; omega, lcD_map (fun _ => true) (fun x hx kk hk => ?_) ?_⟩
  · obtain ⟨y, hy⟩ := lk_some hx
    obtain ⟨g1, g2⟩ := g.nm _ (lk_mem hy)
    refine jn_ok (fun c => c = true) (fun k1 hk1 => is_name_ok (N.gn _ g1) ?_) fun c hc => by subst hc; exact hk
    rw [if_pos rfl]
    exact ⟨y, hy, are_wholes_ok g2.1 (hk1 _ rfl)⟩
  · have : (([] : List Bool) ++ (ks m).map fun _ => true).all id = true := by simp
    rw [this]
    exact h
def behind (l : Option Str) (n : Str) : Bool := match l with
  | some x => leS n x
  | none => false
def fitsB (m : Fs) (r : Rw) (l : Option Str) : Bool := !behind l r.nm && match r with
  | .gone n => (lk m n).isSome
  | .put n v => !decide (lk m n = some v)
theorem shaped_L1 {r : List PyData} (h : r = []) : EqOk (eL eA r) := by subst h; rfl
theorem depth_ints2 (v : List Int) : PyData.depthAll (v.map eI) = 0 := depth_ints' v
theorem shaped_LL (v : List Int) : EqOk (eL (eL eI) [v]) := by
  have h := canLay_ints' v
  have h2 := depth_ints' v
  show SeqAt.shaped (.list [.list (v.map PyData.int)]) = true
  unfold SeqAt.shaped
  rw [Bool.and_eq_true]
  refine ⟨by simp [PyData.canLay0, PyData.canLayAll0, h], decide_eq_true ?_⟩
  simp only [PyData.depth, PyData.depthAll]
  rw [h2]
  decide
theorem eqv_LL (v w : List Int) : PyData.eqv (eL (eL eI) [v]) (eL eA [eL eI w]) = decide (v = w) := by
  have := eqvA_ints v w
  show PyData.eqv (.list [.list (v.map eI)]) (.list [.list (w.map eI)]) = _
  simp only [PyData.eqv, PyData.eqvAll]
  rw [this]
  simp
def doR (m : Fs) : Rw → Fs
  | .gone n => dk m n
  | .put n v => pk m n v
def runR : Fs → Option Str → Int → List Rw → Int ⊕ Fs
  | m, _, _, [] => .inr m
  | m, l, i, r :: rs => if fitsB m r l = true then runR (doR m r) (some r.nm) (i + 1) rs else .inl i
theorem GFs.doR (g : GFs ns m) {r : Rw} (gr : GRw ns r) : GFs ns (doR m r) := by
  cases r with
  | gone n => exact g.dk n
  | put n v => exact g.pk gr.1 (gr.2 n v rfl)
theorem runR_good : ∀ {rs : List Rw} {m : Fs} {l : Option Str} {i : Int} {m' : Fs}, GFs ns m → (∀ r ∈ rs, GRw ns r) → runR m l i rs = .inr m' → GFs ns m'
  | [], m, l, i, m', g, _, e => by
    cases e
    exact g
  | r :: rs, m, l, i, m', g, gr, e => by
    unfold runR at e
    split at e
    · exact runR_good (g.doR (gr r List.mem_cons_self)) (fun x hx => gr x (List.mem_cons_of_mem _ hx)) e
    · cases e
theorem runR_ext : ∀ {rs : List Rw} {a b : Fs} {l : Option Str} {i : Int}, (∀ n, lk a n = lk b n) → (∀ j, runR a l i rs = .inl j → runR b l i rs = .inl j) ∧ (∀ a', runR a l i rs = .inr a' → ∃ b', runR b l i rs = .inr b' ∧ ∀ n, lk a' n = lk b' n)
  | [], a, b, l, i, h => ⟨fun j e => by simp [runR] at e, fun a' e => by simp [runR] at e; subst e; exact ⟨b, rfl, h⟩⟩
  | r :: rs, a, b, l, i, h => by
    have ef : fitsB a r l = fitsB b r l := by
      unfold fitsB
      cases r with
      | gone n => simp only [h n]
      | put n v => simp only [h n]
    have hd : ∀ n, lk (doR a r) n = lk (doR b r) n := fun n => by
      cases r with
      | gone x => show lk (dk a x) n = lk (dk b x) n; rw [lk_dk, lk_dk, h n]
      | put x v => show lk (pk a x v) n = lk (pk b x v) n; rw [lk_pk, lk_pk, h n]
    unfold runR
    rw [ef]
    split
    · exact runR_ext hd
    · exact ⟨fun j e => e, fun a' e => by cases e⟩
theorem cont_ext {a b : Fs} (na : (ks a).Nodup) (nb : (ks b).Nodup) (h : ∀ n, lk a n = lk b n) : cont a = cont b := by
  have hm : ∀ x, x ∈ ks a ↔ x ∈ ks b := fun x => by rw [← lk_iff, ← lk_iff, h x]
  have hp : (ks a).Perm (ks b) := (List.perm_ext_iff_of_nodup na nb).mpr hm
  have hs : srtS' (ks a) = srtS' (ks b) := pwS_eq ((srtS_perm _).trans (hp.trans (srtS_perm _).symm)) (srtS_pw _) (srtS_pw _)
  unfold cont
  rw [hs]
  refine List.map_congr_left fun n _ => by rw [h n]
end
section
variable {ns : List Str} {m : Fs}
theorem appl_go {F : Int × PyData → Option Str × Fs → (Option Str × Fs → Prop) → Prop} {X : Int → Prop} {KK : Option Str × Fs → Prop}
    (hF : ∀ (i : Int) (r : Rw) (l : Option Str) (m : Fs) (kk : Option Str × Fs → Prop), GRw ns r → GFs ns m → (fitsB m r l = false → X i) → (fitsB m r l = true → kk (some r.nm, doR m r)) → F (i, rowD r) (l, m) kk) :
    ∀ (rs : List Rw) (i : Nat) (l : Option Str) (m : Fs), GFs ns m → (∀ r ∈ rs, GRw ns r) → (∀ j, runR m l i rs = .inl j → X j) → (∀ l' m', runR m l i rs = .inr m' → KK (l', m')) → forD F (enumF i (rs.map rowD)) (l, m) KK
  | [], i, l, m, _, _, _, h2 => h2 l m rfl
  | r :: rs, i, l, m, g, gr, h1, h2 => by
    have gr0 := gr r List.mem_cons_self
    show F ((i : Int), rowD r) (l, m) fun s' => forD F (enumF (i + 1) (rs.map rowD)) s' KK
    unfold runR at h1 h2
    refine hF _ r l m _ gr0 g (fun e => ?_) fun e => ?_
    · rw [if_neg (by rw [e]; decide)] at h1
      exact h1 _ rfl
    · rw [if_pos e] at h1 h2
      exact appl_go hF rs (i + 1) _ _ (g.doR gr0) (fun x hx => gr x (List.mem_cons_of_mem _ hx)) h1 h2
theorem list_ok {P : List Int → Prop} (h : ∀ v, GV v → P v) : p_l_list P := by
  unfold p_l_list
  refine tk (by decide) fun n2 l2 u2 => ?_
  split
  · refine tk (by decide) fun n l u => ⟨by omega, by rw [rng_len]; omega, lcD_all (fun x => x.natAbs < 10 ^ 31) (fun x _ kk hk => tk (by decide) fun n3 l3 u3 => ?_) (fun _ h => nomatch h) fun ys hy hyl => h ys ⟨by rw [hyl, rng_len]; simp; omega, hy⟩⟩
    obtain ⟨y, hy, e⟩ := atI_ex (xs := ([0, 1] : List Int)) l3 (by simpa using u3)
    refine ⟨y, e, hk y ?_⟩
    simp only [List.mem_cons, List.not_mem_nil, or_false] at hy
    rcases hy with rfl | rfl <;> decide
  · split
    · refine tk (by decide) fun n l u => ⟨by omega, by rw [rng_len]; omega, lcD_all (fun x => x.natAbs < 10 ^ 31) (fun x _ kk hk => tkB (by decide) fun n3 l3 u3 => hk _ ?_) (fun _ h => nomatch h) fun ys hy hyl => h ys ⟨by rw [hyl, rng_len]; simp; omega, hy⟩⟩
      omega
    · refine tk (by decide) fun a la ua => tk (by decide) fun b lb ub => tk (by decide) fun c lc uc => ?_
      obtain ⟨y, hy, e⟩ := atI_ex (xs := [a, b]) lc (by simpa using uc)
      have hy2 : 0 ≤ y ∧ y ≤ 60 := by
        simp only [List.mem_cons, List.not_mem_nil, or_false] at hy
        omega
      refine ⟨y, e, by omega, by rw [rng_len]; omega, lcD_all (fun x => x.natAbs < 10 ^ 31) (fun x _ kk hk => tk (by decide) fun n3 l3 u3 => hk _ ?_) (fun _ h => nomatch h) fun ys hy hyl => h ys ⟨by rw [hyl, rng_len]; simp; omega, hy⟩⟩
      have : (3 : Nat) < 10 ^ 31 := by decide
      omega
theorem pair_ok {P : Fs × Fs → Prop} (N : Nms ns) (h : ∀ a b, GFs ns a → GFs ns b → P (a, b)) : p_l_pair_of_dicts ns P := by
  unfold p_l_pair_of_dicts
  refine forD_inv (fun _ s => GFs ns s.1 ∧ GFs ns s.2) (n := 0) ⟨GFs.nil, GFs.nil⟩ (fun i x s kk hx hi hk => ?_) fun s hi => h _ _ hi.1 hi.2
  obtain ⟨g1, g2⟩ := hi
  have l1 := g1.len N
  have l2 := g2.len N
  have hx := List.mem_of_getElem? hx
  refine tk (by decide) fun n ln un => list_ok fun v gv => ?_
  refine jn_ok (GFs ns) (fun k1 hk1 => ?_) fun a ga => ?_
  · split
    · exact ⟨by omega, hk1 _ (g1.pk hx gv)⟩
    · exact hk1 _ g1
  refine jn_ok (GFs ns) (fun k1 hk1 => ?_) fun b gb => ?_
  · split
    · exact ⟨by omega, hk1 _ (g2.pk hx gv)⟩
    · exact hk1 _ g2
  have l3 := gb.len N
  refine jn_ok (GFs ns) (fun k1 hk1 => ?_) fun c gc => ?_
  · split
    · exact list_ok fun w gw => ⟨by omega, hk1 _ (gb.pk hx gw)⟩
    · exact hk1 _ gb
  have l4 := gc.len N
  split
  · exact ⟨by omega, hk _ ⟨ga, gc.pk hx gv⟩⟩
  · exact hk _ ⟨ga, gc⟩
theorem shaped_strs {xs : List Str} (h : ∀ x ∈ xs, GN x) : EqOk (eL eS xs) := by
  have hc : ∀ xs : List Str, (∀ x ∈ xs, GN x) → PyData.canLayAll0 (xs.map eS) = true ∧ PyData.depthAll (xs.map eS) = 0 := fun xs g => by
    induction xs with
    | nil => exact ⟨rfl, rfl⟩
    | cons x xs ih =>
      have ih := ih fun y hy => g y (List.mem_cons_of_mem _ hy)
      have s0 : PyData.canLay0 (eS x) = true := by
        have := show SeqAt.shaped (.str x) = true from (g x List.mem_cons_self).shq.ok
        unfold SeqAt.shaped at this
        rw [Bool.and_eq_true] at this
        exact this.1
      rw [List.map_cons]
      refine ⟨by rw [PyData.canLayAll0, s0, ih.1]; rfl, ?_⟩
      simp only [PyData.depthAll]
      rw [ih.2]
      rfl
  have h := hc xs h
  show SeqAt.shaped (.list (xs.map eS)) = true
  unfold SeqAt.shaped
  rw [Bool.and_eq_true]
  refine ⟨by rw [PyData.canLay0]; exact h.1, decide_eq_true ?_⟩
  simp only [PyData.depth]
  rw [h.2]
  decide
theorem shuf_go {F : List Str × Fs → (List Str × Fs → Prop) → (List Str × Fs → Prop) → Prop} {k : List Str × Fs → Prop} (Inv : List Str → Fs → Prop)
    (hF : ∀ (xs : List Str) (f : Fs) (kk ke : List Str × Fs → Prop), Inv xs f → (xs = [] → ke (xs, f)) → (∀ n f', n < xs.length → Inv (xs.eraseIdx n) f' → kk (xs.eraseIdx n, f')) → F (xs, f) kk ke) (hk : ∀ f, Inv [] f → k ([], f)) :
    ∀ (j : Nat) (xs : List Str) (f : Fs), xs.length ≤ j → Inv xs f → wlN F (j + 1) (xs, f) k
  | j, xs, f, hj, hi => by
    refine hF xs f _ _ hi (fun e => by subst e; exact hk f hi) fun n f' hn hi' => ?_
    have hl := List.length_eraseIdx_of_lt hn
    cases j with
    | zero => omega
    | succ j => exact shuf_go Inv hF hk j _ f' (by omega) hi'
theorem shuffled_ok {P : Fs → Prop} (g : GFs ns m) (N : Nms ns) (h : ∀ m', GFs ns m' → (∀ n, lk m' n = lk m n) → P m') : p_l_shuffled m P := by
  unfold p_l_shuffled
  have hl := g.len N
  refine ⟨by rw [ks_len]; omega, (srtS' (ks m)).length + 1, ?_⟩
  refine shuf_go (fun xs f => xs.Nodup ∧ (∀ n ∈ xs, n ∈ ks m) ∧ GFs ns f ∧ ∀ n, (n ∈ xs ∧ lk f n = none) ∨ (n ∉ xs ∧ lk f n = lk m n)) (fun xs f kk ke hi h0 h1 => ?_) (fun f hi => h f hi.2.2.1 fun n => ?_) _ (srtS' (ks m)) [] (Nat.le_refl _) ⟨srt_nd g.nd, fun n hn => srt_mem hn, GFs.nil, fun n => ?_⟩
  · obtain ⟨nd, sub, gf, hlk⟩ := hi
    have hfl := gf.len N
    refine ⟨shaped_strs fun x hx => N.gn x (g.mem (sub x hx)), ?_⟩
    cases hx : xs with
    | nil =>
      rw [if_neg (by simp)]
      have := h0 hx
      rw [hx] at this
      exact this
    | cons x0 r0 =>
      rw [← hx]
      have hp : 0 < xs.length := by rw [hx]; simp
      rw [if_pos (by rw [hx]; rfl)]
      have hxl : xs.length ≤ 120 := by
        have := nd_le nd sub
        rw [ks_len] at this
        omega
      refine tk (by show (0 : Int) < (xs.length : Int) ∧ (xs.length : Int) < _; omega) fun i li ui => ?_
      have ui : i < (xs.length : Int) := ui
      refine ⟨by omega, i.toNat, ixN_int li ui, ?_⟩
      have hi : i.toNat < xs.length := by omega
      have hn : xs[i.toNat] ∈ xs := List.getElem_mem hi
      generalize hname : xs[i.toNat] = n at hn
      have hget : xs[i.toNat]? = some n := by rw [List.getElem?_eq_getElem hi, hname]
      refine ⟨n, hget, by rw [ks_len]; show f.length ≤ _; omega, ?_⟩
      obtain ⟨v, hv⟩ := lk_some (sub n hn)
      refine lcD_fm (fun x => if lk f x = some v then some v else none) (fun x hx kk hk => ?_) ?_
      · obtain ⟨y, hy⟩ := lk_some hx
        refine ⟨y, hy, v, hv, ?_⟩
        rw [hy] at hk
        by_cases z : y = v
        · rw [if_pos (by simp [z])]
          rw [if_pos (by rw [z])] at hk
          exact ⟨y, hy, by rw [z]; exact hk⟩
        · rw [if_neg (by simp [z])]
          rw [if_neg (by simp [z])] at hk
          exact hk
      rw [List.nil_append]
      have hall : ∀ y ∈ (ks f).filterMap (fun x => if lk f x = some v then some v else none), y = v := fun y hy => by
        obtain ⟨x, _, e⟩ := List.mem_filterMap.mp hy
        split at e
        · exact (Option.some.inj e).symm
        · cases e
      have hal : ((ks f).filterMap fun x => if lk f x = some v then some v else none).length ≤ 120 := by
        have := List.length_filterMap_le (fun x => if lk f x = some v then some v else none) (ks f)
        rw [ks_len] at this
        omega
      generalize (ks f).filterMap (fun x => if lk f x = some v then some v else none) = sm at hall hal ⊢
      refine tk (by decide) fun t lt ut => ⟨⟨by omega, by omega, ?_⟩, v, hv, ?_, ?_⟩
      · have : t.toNat ≤ 1 := by omega
        calc sm.length * t.toNat ≤ 120 * 1 := Nat.mul_le_mul hal this
          _ ≤ 100000 := by decide
      · have hr : (repL sm t).length ≤ 120 := by
          unfold repL
          have : t.toNat = 0 ∨ t.toNat = 1 := by omega
          rcases this with e | e
          · rw [e]; simp
          · rw [e]; simpa using hal
        simp
        omega
      have hr : ∀ y ∈ repL sm t, y = v := fun y hy => by
        unfold repL at hy
        obtain ⟨l, hl, hy⟩ := List.mem_flatten.mp hy
        rw [(List.mem_replicate.mp hl).2] at hy
        exact hall y hy
      refine ⟨v, ?_, by show f.length < _; omega, ?_⟩
      · obtain ⟨y, hy, e⟩ := atI_ex (xs := cat (repL sm t) [v]) (i := 0) (Int.le_refl _) (by show (0 : Int) < ((repL sm t ++ [v]).length : Int); rw [List.length_append]; simp only [List.length_cons, List.length_nil]; omega)
        rw [e]
        congr 1
        rcases List.mem_append.mp hy with h | h
        · exact hr y h
        · exact List.mem_singleton.mp h
      · refine h1 i.toNat _ hi ⟨nd.eraseIdx _, fun z hz => sub z (List.mem_of_mem_eraseIdx hz), gf.pk (g.mem (sub n hn)) (g.gv hv), fun z => ?_⟩
        have her : ∀ z, z ∈ xs.eraseIdx i.toNat ↔ z ∈ xs ∧ z ≠ n := fun z => by
          rw [List.mem_eraseIdx_iff_getElem?]
          refine ⟨fun ⟨j, hj, e⟩ => ⟨List.mem_of_getElem? e, fun q => hj ?_⟩, fun ⟨q1, q2⟩ => ?_⟩
          · subst q
            exact ((List.getElem?_inj hi nd).mp (by rw [hget, e])).symm
          · obtain ⟨j, e⟩ := List.getElem?_of_mem q1
            refine ⟨j, fun q => q2 ?_, e⟩
            rw [q, hget] at e
            exact (Option.some.inj e).symm
        rw [her, lk_pk]
        by_cases y : z = n
        · right
          rw [if_pos y, y, hv]
          exact ⟨fun q => q.2 rfl, rfl⟩
        · rw [if_neg y]
          rcases hlk z with q | q
          · left; exact ⟨⟨q.1, y⟩, q.2⟩
          · right; exact ⟨fun w => q.1 w.1, q.2⟩
  · rcases hi.2.2.2 n with q | q
    · exact absurd q.1 (by simp)
    · exact q.2
  · by_cases z : n ∈ srtS' (ks m)
    · left; exact ⟨z, rfl⟩
    · right
      refine ⟨z, ?_⟩
      rw [lk_none_iff.mpr fun q => z ((srtS_perm _).mem_iff.mpr q)]
      rfl
theorem GV.shn {v : List Int} (g : GV v) : Shn 1 2100 (eL eI v) := (Shn.listE (e := eI) (fun x hx => Shn.int 31 (by decide) (by decide) (g.2 x hx)) g.1).up (Nat.le_refl _) (by decide)
theorem GFs.shn (g : GFs ns m) (N : Nms ns) : Shn 2 270000 (eD iS (eL eI) m) := (Shn.dict g.nd (fun q hq => ⟨N.gn _ (g.nm q hq).1, (g.nm q hq).2.shn⟩) (g.len N)).up (Nat.le_refl _) (by decide)
theorem GRw.shn {r : Rw} (N : Nms ns) (g : GRw ns r) : Shn 2 2600 (rowD r) := by
  have gn := (N.gn _ g.1).shn
  cases r with
  | gone n => exact (Shn.tup (ShnA.cons (Shn.wd (s := "gone") (by decide +kernel)) (ShnA.cons (show Shn 0 100 (.str n) from gn) ShnA.nil))).up (by decide) (by decide)
  | put n v => exact (Shn.tup (ShnA.cons ((Shn.wd (s := "put") (by decide +kernel)).up (Nat.zero_le 1) (Nat.le_refl _)) (ShnA.cons ((show Shn 0 100 (.str n) from gn).up (Nat.zero_le 1) (Nat.le_refl _)) (ShnA.cons (g.2 n v rfl).shn (ShnA.nil.up (Nat.zero_le 1) (Nat.le_refl _)))))).up (by decide) (by decide)
theorem rows_shn {rs : List Rw} (N : Nms ns) (g : ∀ r ∈ rs, GRw ns r) (hl : rs.length ≤ 60) : Shn 3 170000 (eL eA (rs.map rowD)) :=
  (Shn.listE (e := eA) (n := 60) (fun d hd => by
    obtain ⟨r, hr, rfl⟩ := List.mem_map.mp hd
    exact (g r hr).shn N) (by rw [List.length_map]; exact hl)).up (Nat.le_refl _) (by decide)
end
/-! ### rows that lead from one dict to another one -/
def rowF (a b : Fs) (n : Str) : Option Rw := match lk b n with
  | none => some (.gone n)
  | some y => if lk a n = some y then none else some (.put n y)
def namesR (a b : Fs) : List Str := srtS' (dd (ks a ++ ks b))
def rowsR (a b : Fs) : List Rw := (namesR a b).filterMap (rowF a b)
theorem forD_fm {α β : Type} {f : α → List β → (List β → Prop) → Prop} (g : α → Option β) {N : Nat} : ∀ {xs : List α} {s : List β} {k : List β → Prop}, s.length + xs.length ≤ N → (∀ x ∈ xs, ∀ s : List β, s.length < N → ∀ kk : List β → Prop, kk (s ++ (g x).toList) → f x s kk) → k (s ++ xs.filterMap g) → forD f xs s k
  | [], s, k, _, _, h => by simpa [forD] using h
  | x :: xs, s, k, hn, hs, h => by
    rw [List.length_cons] at hn
    refine hs x List.mem_cons_self s (by omega) _ (forD_fm g ?_ (fun y hy => hs y (List.mem_cons_of_mem _ hy)) ?_)
    · have : (g x).toList.length ≤ 1 := by cases g x <;> simp
      rw [List.length_append]
      omega
    · rw [List.append_assoc]
      have e : (g x).toList ++ xs.filterMap g = (x :: xs).filterMap g := by
        rw [List.filterMap_cons]
        cases g x <;> rfl
      rw [e]
      exact h
theorem exp_ok {d : PyData} {X : Ex → Prop} {P : Unit → Prop} (h : P ()) : p_expect d true X P := by
  unfold p_expect
  rw [if_neg (by decide)]
  exact h
theorem namesR_len (a b : Fs) : (namesR a b).length ≤ a.length + b.length := by
  unfold namesR
  rw [srt_len]
  have := dd_le (ks a ++ ks b)
  rw [List.length_append, ks_len, ks_len] at this
  exact this
theorem namesR_mem {a b : Fs} {n : Str} : n ∈ namesR a b ↔ n ∈ ks a ∨ n ∈ ks b := by
  unfold namesR
  rw [(srtS_perm _).mem_iff, dd_mem, List.mem_append]
theorem namesR_nd (a b : Fs) : (namesR a b).Nodup := srt_nd (dd_nd _)
section
variable {ns : List Str} {a b : Fs}
theorem rowF_good (gb : GFs ns b) {n : Str} {r : Rw} (hn : n ∈ ns) (e : rowF a b n = some r) : GRw ns r := by
  unfold rowF at e
  cases eb : lk b n with
  | none =>
    rw [eb] at e
    cases e
    exact ⟨hn, fun _ _ z => by cases z⟩
  | some y =>
    rw [eb] at e
    simp only at e
    split at e
    · cases e
    · cases e
      exact ⟨hn, fun _ _ z => by cases z; exact gb.gv eb⟩
theorem rowsR_good (ga : GFs ns a) (gb : GFs ns b) : ∀ r ∈ rowsR a b, GRw ns r := fun r hr => by
  obtain ⟨n, hn, e⟩ := List.mem_filterMap.mp hr
  refine rowF_good gb ?_ e
  rcases namesR_mem.mp hn with h | h
  · exact ga.mem h
  · exact gb.mem h
theorem GFs.l60 (g : GFs ns a) (hn : ns.length ≤ 60) : a.length ≤ 60 := by
  have := nd_le g.nd fun x hx => g.mem hx
  rw [ks_len] at this
  omega
end
def ltr : Str := ("abcdefghijklmnopqrstuvwxyz" : Str)
def sixN : List Str := (rng 60).map fun x => (atS ltr (x / 26)).getD "" ++ (atS ltr (x % 26)).getD ""
def sixX : List Str := sixN.map fun s => ("x" : Str) ++ s
theorem six_len : sixN.length = 60 := by decide +kernel
theorem six_gn : ∀ s ∈ sixN, GN s := by
  have key : (sixN.all GNb) = true := by decide +kernel
  exact fun s hs => GNb_ok (List.all_eq_true.mp key s hs)
theorem sixX_gn : ∀ s ∈ sixX, GN s := by
  have key : (sixX.all GNb) = true := by decide +kernel
  exact fun s hs => GNb_ok (List.all_eq_true.mp key s hs)
theorem six_nd : (sixN ++ sixX).Nodup := by decide +kernel
theorem sixty_ok {P : List Str → Prop} (h : P sixN) : p_l_sixty P := by
  unfold p_l_sixty
  refine ⟨by decide, by rw [rng_len]; decide, lcD_map (fun x => (atS ltr (x / 26)).getD "" ++ (atS ltr (x % 26)).getD "") (fun x hx kk hk => ?_) h⟩
  have hx := rng_mem hx
  obtain ⟨c, e, g⟩ := letter_at (i := x / 26) (by omega) (by omega)
  obtain ⟨d, e2, g2⟩ := letter_at (i := x % 26) (by omega) (by omega)
  have e' : atS ltr (x / 26) = some c := e
  have e2' : atS ltr (x % 26) = some d := e2
  rw [e', e2'] at hk
  obtain ⟨a, rfl, ha⟩ := g
  obtain ⟨b, rfl, hb⟩ := g2
  exact ⟨by decide, _, e, by decide, _, e2, by show (1 : Nat) + 1 ≤ 100000; decide, hk⟩
theorem N60 : Nms sixN := ⟨six_gn, by rw [six_len]; decide⟩
theorem N120 : Nms (sixN ++ sixX) := ⟨fun s hs => (List.mem_append.mp hs).elim (six_gn s) (sixX_gn s), by
  rw [List.length_append]
  unfold sixX
  rw [List.length_map, six_len]
  decide⟩
def eldL : Fs := (enumF 0 sixN).map fun p => (p.2, [p.1])
theorem ks_enum (xs : List Str) : ∀ n : Nat, ks ((enumF n xs).map fun p => (p.2, [p.1])) = xs := by
  induction xs with
  | nil => exact fun _ => rfl
  | cons x xs ih =>
    intro n
    show x :: ks ((enumF (n + 1) xs).map fun p => (p.2, [p.1])) = _
    rw [ih]
theorem eld_ks : ks eldL = sixN := ks_enum sixN 0
theorem eld_gv : ∀ q ∈ eldL, GV q.2 := by
  have key : (eldL.all fun q => decide (q.2.length ≤ 60) && q.2.all fun n => decide (n.natAbs < 10 ^ 31)) = true := by decide +kernel
  intro q hq
  have := List.all_eq_true.mp key q hq
  simp only [Bool.and_eq_true, decide_eq_true_eq, List.all_eq_true] at this
  exact this
theorem nd1 : sixN.Nodup := (List.nodup_append.mp six_nd).1
theorem nd2 : sixX.Nodup := (List.nodup_append.mp six_nd).2.1
theorem dOfR {m : Fs} (h : (ks m).Nodup) : dOf m = m := by
  have := dOf_nd (m := m) (acc := []) (by simpa using h)
  simpa [dOf] using this
theorem GFs.of {ns : List Str} {m : Fs} (h : (ks m).Nodup) (h1 : ∀ n ∈ ks m, n ∈ ns) (h2 : ∀ q ∈ m, GV q.2) : GFs ns m := ⟨h, fun q hq => ⟨h1 _ (List.mem_map.mpr ⟨q, hq, rfl⟩), h2 q hq⟩⟩
/-! ### rows with lists of their own -/
def rowO : Rw → OD
  | .gone n => .fz (rowD (.gone n))
  | .put n v => .ot [.fz (eS ("put" : Str)), .fz (eS n), .ol (OD.fzs eI v)]
theorem rowO_fgt (r : Rw) : (rowO r).fgt = rowD r := by
  cases r with
  | gone n => rfl
  | put n v =>
    show PyData.tuple [eS "put", eS n, (OD.ol (OD.fzs eI v)).fgt] = PyData.tuple [eS "put", eS n, eL eI v]
    rw [OD.fgt_ol]
theorem eLO_rows (rs : List Rw) : eLO (rs.map rowO) = eL eA (rs.map rowD) := by
  unfold eLO eL
  rw [List.map_map, List.map_map]
  congr 1
  refine List.map_congr_left fun r _ => ?_
  show (rowO r).fgt = rowD r
  exact rowO_fgt r
theorem row_turnO {a b : Fs} {x : Str} {s : List OD} {kk : List OD → Prop} (hs : s.length < 200) (h : kk (s ++ ((rowF a b x).map rowO).toList)) :
    if (!(lk b x).isSome) = true then ((s).length < 100000 ∧ kk (sno s (OD.fz ((eP eS eS) (("gone" : Str), x))))) else (jn (fun k90 => if (!(lk a x).isSome) = true then (k90 true) else (∃ x92, lk a x = some x92 ∧ ∃ x97, lk b x = some x97 ∧ k90 (!decide (x92 = x97)))) fun c86 => if c86 = true then (∃ x104, lk b x = some x104 ∧ (s).length < 100000 ∧ kk (sno s (OD.ot [(OD.fz (eS ("put" : Str))), (OD.fz (eS x)), (OD.ol (OD.fzs eI x104))]))) else (kk s)) := by
  unfold rowF at h
  cases e : lk b x with
  | none =>
    rw [e] at h
    rw [if_pos (by rfl)]
    exact ⟨by omega, h⟩
  | some y =>
    rw [e] at h
    rw [if_neg (by simp)]
    unfold jn
    cases e2 : lk a x with
    | none =>
      rw [e2] at h
      rw [if_pos (by rfl)]
      dsimp only
      rw [if_pos rfl]
      simp only [if_neg (show ¬ (none : Option (List Int)) = some y from fun z => by cases z)] at h
      exact ⟨y, rfl, by omega, h⟩
    | some z =>
      rw [e2] at h
      rw [if_neg (by simp)]
      refine ⟨z, rfl, y, rfl, ?_⟩
      dsimp only
      by_cases q : z = y
      · subst q
        rw [if_neg (by simp)]
        simp only [if_true, Option.map_none, Option.toList_none, List.append_nil] at h
        exact h
      · rw [if_pos (by simp [q])]
        have q' : ¬ (some z : Option (List Int)) = some y := fun w => q (Option.some.inj w)
        simp only [if_neg q'] at h
        exact ⟨y, rfl, by omega, h⟩
section
variable {ns : List Str} {a b : Fs}
theorem changes_ok {X : Ex → Prop} {P : List OD → Prop} (N : Nms ns) (ga : GFs ns a) (gb : GFs ns b) (la : a.length ≤ 60) (lb : b.length ≤ 60) (h : P ((rowsR a b).map rowO)) : p_changes a b X P := by
  unfold p_changes
  refine albn_ok ga N la (exp_ok (albn_ok gb N lb (exp_ok ⟨by omega, by omega, by rw [ks_len, ks_len]; omega, ?_⟩)))
  have hl := namesR_len a b
  refine forD_fm (fun n => (rowF a b n).map rowO) (N := 200) (by simp only [List.length_nil]; show 0 + (namesR a b).length ≤ 200; omega) (fun x _ s hs kk hk => row_turnO hs hk) ?_
  rw [List.nil_append]
  unfold rowsR at h
  rw [List.map_filterMap] at h
  exact h
theorem rows_ok {P : List PyData → Prop} (ga : GFs ns a) (gb : GFs ns b) (la : a.length ≤ 60) (lb : b.length ≤ 60) (h : P ((rowsR a b).map rowD)) : p_l_rows a b P := by
  unfold p_l_rows
  refine ⟨by rw [ks_len]; omega, lcD_filter (fun x => !(lk a x).isSome) (fun x _ kk hk => hk) ?_⟩
  have nd : (ks a ++ (ks b).filter fun x => !(lk a x).isSome).Nodup := by
    refine List.nodup_append.mpr ⟨ga.nd, gb.nd.filter _, fun x hx y hy e => ?_⟩
    subst e
    have := (List.mem_filter.mp hy).2
    rw [lk_iff.mpr hx] at this
    cases this
  have e : srtS' (cat (ks a) ((ks b).filter fun x => !(lk a x).isSome)) = namesR a b := by
    refine pwS_eq (perm_of (srt_nd nd) (namesR_nd a b) fun n => ?_) (srtS_pw _) (srtS_pw _)
    rw [namesR_mem, (srtS_perm _).mem_iff]
    show n ∈ ks a ++ (ks b).filter (fun x => !(lk a x).isSome) ↔ _
    rw [List.mem_append, List.mem_filter]
    constructor
    · rintro (h | h)
      · exact .inl h
      · exact .inr h.1
    · rintro (h | h)
      · exact .inl h
      · by_cases z : n ∈ ks a
        · exact .inl z
        · exact .inr ⟨h, by rw [lk_none_iff.mpr z]; rfl⟩
  have hfl := List.length_filter_le (fun x => !(lk a x).isSome) (ks b)
  rw [ks_len] at hfl
  have hl := namesR_len a b
  refine ⟨by rw [ks_len]; omega, by unfold cat; rw [List.length_append, ks_len]; omega, ?_⟩
  rw [e]
  refine forD_fm (fun n => (rowF a b n).map rowD) (N := 200) (by simp only [List.length_nil]; omega) (fun x hx s hs kk hk => ?_) ?_
  · unfold rowF at hk
    cases e : lk b x with
    | none =>
      rw [e] at hk
      rw [if_pos (by rfl)]
      exact ⟨by omega, hk⟩
    | some y =>
      rw [e] at hk
      rw [if_neg (by simp)]
      refine ⟨y, rfl, ?_⟩
      by_cases q : lk a x = some y
      · rw [if_neg (by simp [q])]
        simp only [if_pos q, Option.map_none, Option.toList_none, List.append_nil] at hk
        exact hk
      · rw [if_pos (by simp [q])]
        simp only [if_neg q] at hk
        exact ⟨y, rfl, by omega, hk⟩
  · rw [List.nil_append]
    unfold rowsR at h
    rw [List.map_filterMap] at h
    exact h
theorem rowsR_ext {a1 b1 : Fs} (ha : ∀ n, lk a1 n = lk a n) (hb : ∀ n, lk b1 n = lk b n) : rowsR a1 b1 = rowsR a b := by
  have e : namesR a1 b1 = namesR a b := pwS_eq (perm_of (namesR_nd _ _) (namesR_nd _ _) fun n => by
    rw [namesR_mem, namesR_mem, ← lk_iff, ← lk_iff, ← lk_iff, ← lk_iff, ha, hb]) (srtS_pw _) (srtS_pw _)
  unfold rowsR
  rw [e]
  congr 1
  funext n
  unfold rowF
  rw [ha, hb]
theorem rows_shn2 {rs : List Rw} (N : Nms ns) (g : ∀ r ∈ rs, GRw ns r) (hl : rs.length ≤ 120) : Shn 3 340000 (eL eA (rs.map rowD)) :=
  (Shn.listE (e := eA) (n := 120) (fun d hd => by
    obtain ⟨r, hr, rfl⟩ := List.mem_map.mp hd
    exact (g r hr).shn N) (by rw [List.length_map]; exact hl)).up (Nat.le_refl _) (by decide)
theorem lcD_allN {α β : Type} {f : α → (Option β → Prop) → Prop} {k : List β → Prop} (G : β → Prop) : ∀ {xs : List α} {acc : List β}, (∀ x ∈ xs, ∀ kk : Option β → Prop, (∀ y, G y → kk (some y)) → kk none → f x kk) → (∀ y ∈ acc, G y) →
    (∀ ys, (∀ y ∈ ys, G y) → ys.length ≤ acc.length + xs.length → k ys) → lcD f xs acc k
  | [], acc, _, ha, h => h acc ha (Nat.le_refl _)
  | x :: xs, acc, hs, ha, h => by
    refine hs x List.mem_cons_self _ (fun y hy => ?_) ?_
    · refine lcD_allN G (fun z hz => hs z (List.mem_cons_of_mem _ hz)) (fun z hz => ?_) fun ys hys hl => h ys hys ?_
      · rcases List.mem_append.mp hz with hz | hz
        · exact ha z hz
        · rw [show z = y by simpa using hz]
          exact hy
      · simp only [List.length_append, Option.toList_some, List.length_cons, List.length_nil] at hl ⊢
        omega
    · refine lcD_allN G (fun z hz => hs z (List.mem_cons_of_mem _ hz)) (fun z hz => ha z (by simpa using hz)) fun ys hys hl => h ys hys ?_
      simp only [List.length_append, Option.toList_none, List.length_cons, List.length_nil] at hl ⊢
      omega
theorem right_ok {P : Bool → Prop} (N : Nms ns) (ga : GFs ns a) (gb : GFs ns b) (la : a.length ≤ 60) (lb : b.length ≤ 60) (h : P true) : p_l_right a b P := by
  unfold p_l_right
  refine rows_ok ga gb la lb ⟨by decide, ?_⟩
  refine forD_inv (fun _ _ => True) (n := 0) trivial (fun i x s kk hx _ hk => ?_) fun _ _ => h
  refine shuffled_ok ga N fun a1 ga1 ea => shuffled_ok gb N fun b1 gb1 eb => ?_
  have len1 : ∀ {m m1 : Fs}, GFs ns m → GFs ns m1 → (∀ n, lk m1 n = lk m n) → m.length ≤ 60 → m1.length ≤ 60 := fun {m m1} g g1 e hl => by
    have := nd_le g1.nd (ys := ks m) fun x hx => by rw [← lk_iff, ← e x]; exact lk_iff.mpr hx
    rw [ks_len, ks_len] at this
    omega
  have ak : AlkOk ((eL (eD iS (eL eI))) ([a1, b1])) := (Shn.list (ShnA.cons (ga1.shn N) (ShnA.cons (gb1.shn N) (ShnA.nil.up (Nat.zero_le 2) (Nat.le_refl _))))).alk (by decide) (by decide)
  refine ⟨ak, a1, rfl, b1, rfl, changes_ok N ga1 gb1 (len1 ga ga1 ea la) (len1 gb gb1 eb lb) ?_⟩
  rw [rowsR_ext ea eb]
  have gr := rowsR_good ga gb
  have hrl : (rowsR a b).length ≤ 120 := by
    have h1 : (rowsR a b).length ≤ (namesR a b).length := List.length_filterMap_le _ _
    have := namesR_len a b
    omega
  generalize rowsR a b = rs at gr hrl ⊢
  have et : ∀ s : Str, (!decide (s = s)) = false := fun s => by simp
  refine jn_ok (fun c => c = false) (fun k1 hk1 => ⟨⟨eLO_rows rs, ?_⟩, ak, hk1 _ (et _)⟩) fun c hc => ?_
  · rw [eLO_rows]
    exact (rows_shn2 N gr hrl).alk (by decide) (by decide)
  subst hc
  rw [if_neg (by decide)]
  refine ⟨by rw [List.length_map]; omega, lcD_allN (fun v : List Int => v.length ≤ 60) (fun x hx kk h1 h2 => ?_) (fun _ h => nomatch h) fun acc hacc hal => ?_⟩
  · obtain ⟨r, hr, rfl⟩ := List.mem_map.mp hx
    cases r with
    | gone n =>
      refine ⟨eS "gone", rfl, "gone", rfl, ?_⟩
      rw [if_neg (by decide +kernel)]
      exact h2
    | put n v =>
      refine ⟨eS "put", rfl, "put", rfl, ?_⟩
      rw [if_pos (by simp)]
      exact ⟨.ol (OD.fzs eI v), rfl, v, rfl, h1 v ((gr _ hr).2 n v rfl).1⟩
  have hal2 : acc.length ≤ 120 := by
    rw [List.length_nil, List.length_map] at hal
    omega
  refine ⟨by omega, lcD_map (fun v : List Int => (v.length : Int) + 1) (fun x _ kk hk => hk) ?_⟩
  refine forD_inv (fun i s => s.length = acc.length ∧ ∀ (j : Nat) x, acc[j]? = some x → ∃ y, s[j]? = some y ∧ y.length = x.length + (if j < i then 1 else 0)) (n := 0) ⟨rfl, fun j x e => ⟨x, e, by simp⟩⟩ (fun i x s kk hx hi hk2 => ?_) fun s hi => ?_
  · rw [Nat.zero_add] at hi hk2
    obtain ⟨hil, hx2⟩ := List.getElem?_eq_some_iff.mp hx
    rw [List.length_range] at hil
    rw [List.getElem_range] at hx2
    subst hx2
    obtain ⟨hs, hi⟩ := hi
    obtain ⟨y, hy, hyl⟩ := hi i _ (List.getElem?_eq_getElem hil)
    rw [if_neg (Nat.lt_irrefl i)] at hyl
    have hb := hacc _ (List.getElem_mem hil)
    refine ⟨y, hy, by omega, hk2 _ ⟨by rw [List.length_set]; exact hs, fun j x e => ?_⟩⟩
    rw [List.getElem?_set]
    by_cases z : i = j
    · subst z
      rw [if_pos rfl, if_pos (by omega)]
      rw [List.getElem?_eq_getElem hil] at e
      cases e
      refine ⟨_, rfl, ?_⟩
      show (y ++ [7]).length = _
      rw [List.length_append, if_pos (Nat.lt_succ_self i), hyl]
      rfl
    · rw [if_neg z]
      obtain ⟨w, hw, hwl⟩ := hi j x e
      refine ⟨w, hw, ?_⟩
      rw [hwl]
      by_cases q : j < i
      · rw [if_pos q, if_pos (by omega)]
      · rw [if_neg q, if_neg (by omega)]
  rw [Nat.zero_add, List.length_range] at hi
  obtain ⟨hs, hi⟩ := hi
  have em : s.map (fun v => (v.length : Int)) = acc.map fun v : List Int => (v.length : Int) + 1 := by
    refine List.ext_getElem? fun j => ?_
    rw [List.getElem?_map, List.getElem?_map]
    cases e : acc[j]? with
    | none =>
      have : s[j]? = none := List.getElem?_eq_none (by rw [hs]; exact List.getElem?_eq_none_iff.mp e)
      rw [this]
      rfl
    | some x =>
      obtain ⟨y, hy, hyl⟩ := hi j x e
      have hj := (List.getElem?_eq_some_iff.mp e).1
      rw [if_pos hj] at hyl
      rw [hy]
      show some (y.length : Int) = some ((x.length : Int) + 1)
      rw [hyl]
      rfl
  refine jn_ok (fun c => c = false) (fun k1 hk1 => ⟨ak, ?_⟩) fun c hc => ?_
  · rw [et, if_neg (by decide)]
    refine ⟨by omega, lcD_map (fun v : List Int => (v.length : Int)) (fun x _ kk hk => hk) ?_⟩
    rw [List.nil_append, List.nil_append, em]
    exact hk1 _ (by simp)
  subst hc
  rw [if_neg (by decide)]
  exact ⟨by rw [List.length_map, List.length_map]; omega, hk () trivial⟩
end
def xldL : Fs := (enumF 0 sixN).map fun p => (("x" : Str) ++ p.2, [p.1])
theorem xld_ks : ks xldL = sixX := by decide +kernel
theorem xld_gv : ∀ q ∈ xldL, GV q.2 := by
  have key : (xldL.all fun q => decide (q.2.length ≤ 60) && q.2.all fun n => decide (n.natAbs < 10 ^ 31)) = true := by decide +kernel
  intro q hq
  have := List.all_eq_true.mp key q hq
  simp only [Bool.and_eq_true, decide_eq_true_eq, List.all_eq_true] at this
  exact this
theorem u_bag {K : PySem.W.Frag} {Rs : List Res} {H : Hp} {a : Addr} {ns : List Int} {Q : VK} {E : XK} (S : M Rs H) (h : Ent Rs (fun H => SqL K H a (ns.map V.int))) (hl : ns.length ≤ 63) (k : ∀ bag H', M (bagR bag :: Rs) H' → Q (.ref bag) H') :
    sp_l_bag K ([.ref a] ++ []) H Q E := ⟨Rs, a, ns, rfl, S, h, hl, k⟩
def sp_law (K : PySem.W.Frag) : Sp := fun vs H Q _ => ∃ (a : Addr) (ns : List Int), vs = [.ref a] ∧ SqL K H a (ns.map V.int) ∧ ns.length ≤ 63 ∧ ∀ H', Q (.bl true) H'
theorem len_law {K : PySem.W.Frag} (vs : List V) (H : Hp) (Q : VK) (E : XK) (h : sp_law K vs H Q E) : vs.length = 1 := by
  obtain ⟨x, y, rfl, _⟩ := h
  rfl
theorem law_start (K : PySem.W.Frag) (H : Hp) (a : Addr) (ns : List Int) (hl : ns.length ≤ 63) (hS : SqL K H a (ns.map V.int)) : sp_law K [.ref a] H (fun v _ => v = .bl true) fun _ _ _ => False := ⟨a, ns, rfl, hS, hl, fun _ => rfl⟩
def p_law (P : Bool → Prop) : Prop := p_l_names 10 fun x1 => jn (β := (List Str)) (fun k7 => takeD 8 fun n18 => if (decide (n18 = 0)) = true then (p_l_sixty fun x21 => ((enumF 0 x21)).length ≤ 100000 ∧ lcD (fun (x29 : (Int × Str)) (k36 : Option (Str × (List Int)) → Prop) => k36 (some (x29.2, [x29.1]))) (enumF 0 x21) [] fun acc26 => ((enumF 0 x21)).length ≤ 100000 ∧ lcD (fun (x66 : (Int × Str)) (k73 : Option (Str × (List Int)) → Prop) => ((("x" : Str)).length + (x66.2).length ≤ 100000) ∧ k73 (some ((("x" : Str) ++ x66.2), [x66.1]))) (enumF 0 x21) [] fun acc63 => jn (fun k105 => p_l_right (dOf acc26) (dOf acc63) fun x109 => if (!x109) = true then (k105 true) else (p_l_right (dOf acc63) (dOf acc26) fun x115 => k105 (!x115))) fun c101 => if c101 = true then (P false) else (k7 x21)) else (k7 x1)) fun s6 => ((-(2 ^ 62) : Int) ≤ 3 ∧ 3 < (2 ^ 62 : Int)) ∧ forD (fun (x127 : Int) (s124 : Unit) (k125 : (Unit) → Prop) => p_l_pair_of_dicts s6 fun x134 => jn (fun k150 => p_l_right x134.1 x134.2 fun x154 => if (!x154) = true then (k150 true) else (p_l_right x134.2 x134.1 fun x160 => k150 (!x160))) fun c146 => if c146 = true then (P false) else (p_l_right x134.1 x134.1 fun x168 => if (!x168) = true then (P false) else (k125 ()))) (rng 3) () fun s124 => p_changes ([] : (List (Str × (List Int)))) ([] : (List (Str × (List Int)))) (fun x195 => False) fun x190 => (EqOk (eA (((OD.ol x190)).fgt)) ∧ EqOk ((eL eI) ([] : (List Int)))) ∧ P (PyData.eqv (eA (((OD.ol x190)).fgt)) ((eL eI) ([] : (List Int))))
theorem law_plain : p_law (fun b => b = true) := by
  unfold p_law
  refine names_ok (by decide) fun xs hxl hxg => ?_
  refine jn_ok (fun ns => Nms ns ∧ ns.length ≤ 60) (fun k1 hk1 => tk (by decide) fun n ln un => ?_) fun ns hN => ?_
  · split
    · refine sixty_ok ⟨by rw [enumF_len, six_len]; decide, lcD_map (fun p => (p.2, [p.1])) (fun x _ kk hk => hk) ?_⟩
      rw [List.nil_append]
      refine ⟨by rw [enumF_len, six_len]; decide, lcD_map (fun p => (("x" : Str) ++ p.2, [p.1])) (fun x hx kk hk => ⟨?_, hk⟩) ?_⟩
      · obtain ⟨i, hi, e⟩ := List.getElem_of_mem hx
        have := enumF_get 0 sixN i
        rw [List.getElem?_eq_getElem hi, e] at this
        cases e2 : sixN[i]? with
        | none => rw [e2] at this; cases this
        | some y =>
          rw [e2] at this
          have e3 : x = _ := Option.some.inj this
          rw [e3]
          have := (six_gn y (List.mem_of_getElem? e2)).2.1
          show 1 + y.length ≤ 100000
          omega
      rw [List.nil_append]
      have e1 : dOf eldL = eldL := dOfR (by rw [eld_ks]; exact nd1)
      have e2 : dOf xldL = xldL := dOfR (by rw [xld_ks]; exact nd2)
      have e1' : dOf ((enumF 0 sixN).map fun p => (p.2, [p.1])) = eldL := e1
      have e2' : dOf ((enumF 0 sixN).map fun p => (("x" : Str) ++ p.2, [p.1])) = xldL := e2
      rw [e1', e2']
      have g1 : GFs (sixN ++ sixX) eldL := GFs.of (by rw [eld_ks]; exact nd1) (fun n hn => List.mem_append.mpr (.inl (by rw [eld_ks] at hn; exact hn))) eld_gv
      have g2 : GFs (sixN ++ sixX) xldL := GFs.of (by rw [xld_ks]; exact nd2) (fun n hn => List.mem_append.mpr (.inr (by rw [xld_ks] at hn; exact hn))) xld_gv
      have l1 : eldL.length ≤ 60 := by rw [← ks_len, eld_ks, six_len]; decide
      have l2 : xldL.length ≤ 60 := by rw [← ks_len, xld_ks]; unfold sixX; rw [List.length_map, six_len]; decide
      refine jn_ok (fun c => c = false) (fun k2 hk2 => right_ok N120 g1 g2 l1 l2 ?_) fun c hc => ?_
      · rw [if_neg (by decide)]
        exact right_ok N120 g2 g1 l2 l1 (hk2 _ rfl)
      subst hc
      rw [if_neg (by decide)]
      exact hk1 _ ⟨N60, by rw [six_len]; decide⟩
    · exact hk1 _ ⟨⟨hxg, by rw [hxl]; decide⟩, by rw [hxl]; decide⟩
  obtain ⟨N, hn⟩ := hN
  refine ⟨by decide, ?_⟩
  refine forD_inv (fun _ _ => True) (n := 0) trivial (fun i x s kk hx _ hk => ?_) fun _ _ => ?_
  · refine pair_ok N fun a b ga gb => ?_
    have la := ga.l60 hn
    have lb := gb.l60 hn
    refine jn_ok (fun c => c = false) (fun k2 hk2 => right_ok N ga gb la lb ?_) fun c hc => ?_
    · rw [if_neg (by decide)]
      exact right_ok N gb ga lb la (hk2 _ rfl)
    subst hc
    rw [if_neg (by decide)]
    refine right_ok N ga ga la la ?_
    rw [if_neg (by decide)]
    exact hk () trivial
  · refine changes_ok N GFs.nil GFs.nil (by decide) (by decide) ?_
    have e : (rowsR [] []).map rowO = [] := by
      have : namesR [] [] = [] := List.eq_nil_iff_forall_not_mem.mpr fun x hx => by
        rcases namesR_mem.mp hx with h | h <;> simp [ks] at h
      unfold rowsR
      rw [this]
      rfl
    rw [e]
    exact ⟨⟨rfl, rfl⟩, rfl⟩
abbrev t_law_7 (K : PySem.W.Frag) : TS := (tIfS (tOr (tNot (tB (tCall (sp_l_right K) [] E0 (tCons (tVar 1) (tCons (tVar 4) (tCons (tVar 5) tNil)))))) (tNot (tB (tCall (sp_l_right K) [] E0 (tCons (tVar 1) (tCons (tVar 5) (tCons (tVar 4) tNil))))))) (tRet (tC (.bl false))) tNext)
abbrev t_law_6 (K : PySem.W.Frag) : TS := (tSeq (tAsg (tFzE (tCB (rDictP K) (tCons (tLc (iEnum K (tCons (tVar 2) tNil)) (gTup K 2 (gCons (gName 6) (gCons (gName 7) gNil))) tYes (tTup (tCons (tOp (uAdd K) (tC (.str "x")) (tVar 7)) (tCons (tLst (tCons (tVar 6) tNil)) tNil))) [6, 7]) tNil))) (gName 5))
  (t_law_7 K))
abbrev t_law_5 (K : PySem.W.Frag) : TS := (tSeq (tAsg (tFzE (tCB (rDictP K) (tCons (tLc (iEnum K (tCons (tVar 2) tNil)) (gTup K 2 (gCons (gName 6) (gCons (gName 7) gNil))) tYes (tTup (tCons (tVar 7) (tCons (tLst (tCons (tVar 6) tNil)) tNil))) [6, 7]) tNil))) (gName 4))
  (t_law_6 K))
abbrev t_law_4 (K : PySem.W.Frag) : TS := (tSeq (tAsg (tCall (sp_l_sixty K) [] E0 tNil) (gName 2))
  (t_law_5 K))
abbrev t_law_13 (K : PySem.W.Frag) : TS := (tIfS (tNot (tB (tCall (sp_l_right K) [] E0 (tCons (tVar 1) (tCons (tVar 4) (tCons (tVar 4) tNil)))))) (tRet (tC (.bl false))) tNext)
abbrev t_law_11 (K : PySem.W.Frag) : TS := (tSeq (tIfS (tOr (tNot (tB (tCall (sp_l_right K) [] E0 (tCons (tVar 1) (tCons (tVar 4) (tCons (tVar 5) tNil)))))) (tNot (tB (tCall (sp_l_right K) [] E0 (tCons (tVar 1) (tCons (tVar 5) (tCons (tVar 4) tNil))))))) (tRet (tC (.bl false))) tNext)
  (t_law_13 K))
abbrev t_law_10 (K : PySem.W.Frag) : TS := (tSeq (tAsg (tCall (sp_l_pair_of_dicts K) [] E0 (tCons (tVar 1) (tCons (tVar 2) tNil))) (gTup K 2 (gCons (gName 4) (gCons (gName 5) gNil))))
  (t_law_11 K))
abbrev t_law_9 (K : PySem.W.Frag) : TS := (tSeq (tFor (iRng1 (tCons (tC (.int 3)) tNil)) (gName 3) (t_law_10 K))
  (tRet (tOp (uEq K) (tCallW W0 (sp_changes K) [] (tCons (tFzE tDNewK) (tCons (tFzE tDNewK) tNil))) (tLst tNil))))
abbrev t_law_3 (K : PySem.W.Frag) : TS := (tSeq (tIfS (tTest (tOp (uEq K) (tCall (sp_l_take K) [] E0 (tCons (tVar 1) (tCons (tC (.int 8)) tNil))) (tC (.int 0)))) (t_law_4 K) tNext)
  (t_law_9 K))
abbrev t_law_2 (K : PySem.W.Frag) : TS := (tSeq (tAsg (tCall (sp_l_names K) [] E0 (tCons (tVar 1) (tCons (tC (.int 10)) tNil))) (gName 2))
  (t_law_3 K))
abbrev t_law_1 (K : PySem.W.Frag) : TS := (tSeq (tAsg (tCall (sp_l_bag K) [] E0 (tCons (tVar 0) tNil)) (gName 1))
  (t_law_2 K))
abbrev t_law (K : PySem.W.Frag) : TS := (t_law_1 K)
theorem pure_law {K : PySem.W.Frag} (vs : List V) (H : Hp) (Q : VK) (E : XK) (h : sp_law K vs H Q E) : t_law K { nx := fun _ H' => Q .non H', rt := Q } (L2.start ["_law_script", "_law_bag_here", "_law_names_here", "_law_turn", "_law_elder", "_law_newer", "_law_k", "_law_name"] vs) H := by
  obtain ⟨sc, sn, rfl, hS, hl, k⟩ := h
  have hf := law_plain
  show t_law K _ [some (V.ref sc), none, none, none, none, none, none, none] H
  refine g_seq (g_asg (g_call (g_cons (g_var rfl (g_nil (u_bag (M.start hS) (fun H S => S.gotR 0 rfl) hl fun bag H1 S1 => ?_))))))
  generalize [rdL K sc (sn.map V.int)] = Rs at S1
  refine g_nx (g_seq (g_asg (g_call (g_cons (g_var rfl (g_cons (g_c (g_nil (⟨_, _, _, _, rfl, (M.at S1 0 rfl), hf, fun x1 u4 H3 hf (S2 : M (da K u4 ((eL eS) x1) :: bagR bag :: Rs) H3) => ?_⟩)))))))))
  refine g_nx ?_
  refine jn_cut (β := (List Str)) hf (fun (s6 : (List Str)) σ H' => ∃ (u11 : V) (o13 : Option V) (o14 : Option V) (o15 : Option V) (o16 : Option V), σ = [some (V.ref sc), some (V.ref bag), some u11, none, o13, o14, o15, o16] ∧ M (da K u11 ((eL eS) s6) :: bagR bag :: Rs) H') (fun kk8 N9 hN10 hf => ?_) ?_
  ·
    refine g_if (g_test (g_op (g_call (g_cons (g_var rfl (g_cons (g_c (g_nil ?_))))))))
    obtain ⟨h17, hf⟩ := hf
    refine u_take (S2.at 1 rfl) h17 fun n18 H20 n18l n18u (S19 : M (bagR bag :: da K u4 ((eL eS) x1) :: Rs) H20) => ?_
    replace hf := hf n18 n18l n18u
    refine g_c (v_eqI (g_bl (v_iff hf (fun _ hf => ?_) (fun _ hf => ?_))))
    ·
      refine g_seq (g_asg (g_call (g_nil (⟨_, _, rfl, S19, hf, fun x21 u24 H23 hf (S22 : M (da K u24 ((eL eS) x21) :: bagR bag :: da K u4 ((eL eS) x1) :: Rs) H23) => ?_⟩))))
      refine g_nx ?_
      refine g_seq (g_asg (g_cb (g_cons (g_lc (g_iEnum (g_cons (g_var rfl (g_nil ?_))))))))
      refine lc_enumN flS (K := K) (e' := (eP eS (eL eI))) hf S22 (fun _ S => S.gotA 0 rfl) (fun x29 acc26 E27 T37 H35 kk28 N30 hl31 S34 hf hp32 hn33 => ?_) (fun E27 acc26 H51 hf S50 => ?_)
      ·
        refine g_gtup (.inl (.inl (S34.got 0 rfl))) rfl (g_gcons (g_name (g_gcons (g_name (g_gnil (g_wipe rfl (g_yes (v_ifT (g_tup (g_cons (g_var rfl (g_cons (g_lst (g_cons (g_var rfl (g_nil (v_lsto (ds := ([x29.1]).map eI) S34 (EnF.consA (EnF.all fun _ => .int _) EnF.nilA) (len_ok rfl) fun p38 H40 (S39 : M (acR K p38 (([x29.1]).map eI) :: pt T37 (.tup [.int x29.1, V.str x29.2]) :: acR K E27 (acc26.map (eP eS (eL eI))) :: da K u24 ((eL eS) x21) :: bagR bag :: da K u4 ((eL eS) x1) :: Rs) H40) => ?_)))))))))))))))))
        have S42 : M (da K (V.ref p38) ((eL eI) ([x29.1])) :: pt T37 (.tup [.int x29.1, V.str x29.2]) :: acR K E27 (acc26.map (eP eS (eL eI))) :: da K u24 ((eL eS) x21) :: bagR bag :: da K u4 ((eL eS) x1) :: Rs) H40 := acR_fixL S39
        refine g_nil (v_tupq S42 (EnF.consA (EnF.all fun _ => .str _) (EnF.consA (EnF.at 0 rfl) EnF.nilA)) (len_ok rfl) fun p44 H46 (S45 : M (da K (V.ref p44) ((eP eS (eL eI)) (x29.2, [x29.1])) :: da K (V.ref p38) ((eL eI) ([x29.1])) :: pt T37 (.tup [.int x29.1, V.str x29.2]) :: acR K E27 (acc26.map (eP eS (eL eI))) :: da K u24 ((eL eS) x21) :: bagR bag :: da K u4 ((eL eS) x1) :: Rs) H46) => ?_)
        refine acR_put S45 3 rfl (EnF.at 0 rfl) hl31 fun H49 (S48 : M (acR K E27 (acc26.map (eP eS (eL eI)) ++ [(eP eS (eL eI)) (x29.2, [x29.1])]) :: da K (V.ref p44) ((eP eS (eL eI)) (x29.2, [x29.1])) :: da K (V.ref p38) ((eL eI) ([x29.1])) :: pt T37 (.tup [.int x29.1, V.str x29.2]) :: da K u24 ((eL eS) x21) :: bagR bag :: da K u4 ((eL eS) x1) :: Rs) H49) => ?_
        exact hp32 _ _ hf (M.sub (.cons 0 rfl (.cons 3 rfl (.cons 3 rfl (.cons 3 rfl (.tl (.tl (.tl (.refl _)))))))) S48)
      have S53 : M (da K (V.ref E27) ((eL (eP eS (eL eI))) acc26) :: da K u24 ((eL eS) x21) :: bagR bag :: da K u4 ((eL eS) x1) :: Rs) H51 := acR_fixL S50
      refine g_nil (v_dictp S53 0 rfl fun p55 H57 (S56 : M (adR K iS (eL eI) p55 (dOf acc26) :: da K (V.ref E27) ((eL (eP eS (eL eI))) acc26) :: da K u24 ((eL eS) x21) :: bagR bag :: da K u4 ((eL eS) x1) :: Rs) H57) => ?_)
      refine v_fzD S56 0 rfl fun H60 (S59 : M (da K (V.ref p55) ((eD iS (eL eI)) (dOf acc26)) :: da K (V.ref E27) ((eL (eP eS (eL eI))) acc26) :: da K u24 ((eL eS) x21) :: bagR bag :: da K u4 ((eL eS) x1) :: Rs) H60) => ?_
      refine g_nx ?_
      have S62 : M (da K (V.ref p55) ((eD iS (eL eI)) (dOf acc26)) :: da K u24 ((eL eS) x21) :: bagR bag :: da K u4 ((eL eS) x1) :: Rs) H60 := (M.drp S59 1)
      refine g_seq (g_asg (g_cb (g_cons (g_lc (g_iEnum (g_cons (g_var rfl (g_nil ?_))))))))
      refine lc_enumN flS (K := K) (e' := (eP eS (eL eI))) hf S62 (fun _ S => S.gotA 1 rfl) (fun x66 acc63 E64 T74 H72 kk65 N67 hl68 S71 hf hp69 hn70 => ?_) (fun E64 acc63 H89 hf S88 => ?_)
      ·
        obtain ⟨h75, hf⟩ := hf
        refine g_gtup (.inl (.inl (S71.got 0 rfl))) rfl (g_gcons (g_name (g_gcons (g_name (g_gnil (g_wipe rfl (g_yes (v_ifT (g_tup (g_cons (g_op (g_c (g_var rfl (v_addS h75 (g_cons (g_lst (g_cons (g_var rfl (g_nil (v_lsto (ds := ([x66.1]).map eI) S71 (EnF.consA (EnF.all fun _ => .int _) EnF.nilA) (len_ok rfl) fun p76 H78 (S77 : M (acR K p76 (([x66.1]).map eI) :: pt T74 (.tup [.int x66.1, V.str x66.2]) :: acR K E64 (acc63.map (eP eS (eL eI))) :: da K (V.ref p55) ((eD iS (eL eI)) (dOf acc26)) :: da K u24 ((eL eS) x21) :: bagR bag :: da K u4 ((eL eS) x1) :: Rs) H78) => ?_))))))))))))))))))))
        have S80 : M (da K (V.ref p76) ((eL eI) ([x66.1])) :: pt T74 (.tup [.int x66.1, V.str x66.2]) :: acR K E64 (acc63.map (eP eS (eL eI))) :: da K (V.ref p55) ((eD iS (eL eI)) (dOf acc26)) :: da K u24 ((eL eS) x21) :: bagR bag :: da K u4 ((eL eS) x1) :: Rs) H78 := acR_fixL S77
        refine g_nil (v_tupq S80 (EnF.consA (EnF.all fun _ => .str _) (EnF.consA (EnF.at 0 rfl) EnF.nilA)) (len_ok rfl) fun p82 H84 (S83 : M (da K (V.ref p82) ((eP eS (eL eI)) ((("x" : Str) ++ x66.2), [x66.1])) :: da K (V.ref p76) ((eL eI) ([x66.1])) :: pt T74 (.tup [.int x66.1, V.str x66.2]) :: acR K E64 (acc63.map (eP eS (eL eI))) :: da K (V.ref p55) ((eD iS (eL eI)) (dOf acc26)) :: da K u24 ((eL eS) x21) :: bagR bag :: da K u4 ((eL eS) x1) :: Rs) H84) => ?_)
        refine acR_put S83 3 rfl (EnF.at 0 rfl) hl68 fun H87 (S86 : M (acR K E64 (acc63.map (eP eS (eL eI)) ++ [(eP eS (eL eI)) ((("x" : Str) ++ x66.2), [x66.1])]) :: da K (V.ref p82) ((eP eS (eL eI)) ((("x" : Str) ++ x66.2), [x66.1])) :: da K (V.ref p76) ((eL eI) ([x66.1])) :: pt T74 (.tup [.int x66.1, V.str x66.2]) :: da K (V.ref p55) ((eD iS (eL eI)) (dOf acc26)) :: da K u24 ((eL eS) x21) :: bagR bag :: da K u4 ((eL eS) x1) :: Rs) H87) => ?_
        exact hp69 _ _ hf (M.sub (.cons 0 rfl (.cons 3 rfl (.cons 3 rfl (.cons 3 rfl (.cons 3 rfl (.tl (.tl (.tl (.refl _))))))))) S86)
      have S91 : M (da K (V.ref E64) ((eL (eP eS (eL eI))) acc63) :: da K (V.ref p55) ((eD iS (eL eI)) (dOf acc26)) :: da K u24 ((eL eS) x21) :: bagR bag :: da K u4 ((eL eS) x1) :: Rs) H89 := acR_fixL S88
      refine g_nil (v_dictp S91 0 rfl fun p93 H95 (S94 : M (adR K iS (eL eI) p93 (dOf acc63) :: da K (V.ref E64) ((eL (eP eS (eL eI))) acc63) :: da K (V.ref p55) ((eD iS (eL eI)) (dOf acc26)) :: da K u24 ((eL eS) x21) :: bagR bag :: da K u4 ((eL eS) x1) :: Rs) H95) => ?_)
      refine v_fzD S94 0 rfl fun H98 (S97 : M (da K (V.ref p93) ((eD iS (eL eI)) (dOf acc63)) :: da K (V.ref E64) ((eL (eP eS (eL eI))) acc63) :: da K (V.ref p55) ((eD iS (eL eI)) (dOf acc26)) :: da K u24 ((eL eS) x21) :: bagR bag :: da K u4 ((eL eS) x1) :: Rs) H98) => ?_
      refine g_nx ?_
      have S100 : M (da K (V.ref p93) ((eD iS (eL eI)) (dOf acc63)) :: da K (V.ref p55) ((eD iS (eL eI)) (dOf acc26)) :: da K u24 ((eL eS) x21) :: bagR bag :: da K u4 ((eL eS) x1) :: Rs) H98 := (M.drp S97 1)
      refine g_if ?_
      refine tt_cut hf (fun H => M (da K (V.ref p93) ((eD iS (eL eI)) (dOf acc63)) :: da K (V.ref p55) ((eD iS (eL eI)) (dOf acc26)) :: da K u24 ((eL eS) x21) :: bagR bag :: da K u4 ((eL eS) x1) :: Rs) H) (fun kk102 P103 hP104 hf => ?_) ?_
      ·
        refine g_or (g_not (g_B (g_call (g_cons (g_var rfl (g_cons (g_var rfl (g_cons (g_var rfl (g_nil (⟨_, _, _, _, _, _, _, rfl, (M.at (M.addA (M.addA S100 (EnF.at 0 rfl)) (EnF.at 2 rfl)) 5 rfl), hf, fun x109 H111 hf (S110 : M (bagR bag :: da K (V.ref p93) ((eD iS (eL eI)) (dOf acc63)) :: da K (V.ref p55) ((eD iS (eL eI)) (dOf acc26)) :: da K u24 ((eL eS) x21) :: da K u4 ((eL eS) x1) :: Rs) H111) => ?_⟩)))))))))))
        refine g_bl (v_iff hf (fun _ hf => ?_) (fun _ hf => ?_))
        ·
          exact hP104 _ _ hf (M.sub (.cons 1 rfl (.cons 1 rfl (.cons 1 rfl (.cons 0 rfl (.cons 0 rfl (.refl _)))))) S110)
        ·
          refine g_not (g_B (g_call (g_cons (g_var rfl (g_cons (g_var rfl (g_cons (g_var rfl (g_nil (⟨_, _, _, _, _, _, _, rfl, (M.at (M.addA (M.addA S110 (EnF.at 2 rfl)) (EnF.at 2 rfl)) 2 rfl), hf, fun x115 H117 hf (S116 : M (bagR bag :: da K (V.ref p93) ((eD iS (eL eI)) (dOf acc63)) :: da K (V.ref p55) ((eD iS (eL eI)) (dOf acc26)) :: da K u24 ((eL eS) x21) :: da K u4 ((eL eS) x1) :: Rs) H117) => ?_⟩))))))))))
          refine g_bl ?_
          exact hP104 _ _ hf (M.sub (.cons 1 rfl (.cons 1 rfl (.cons 1 rfl (.cons 0 rfl (.cons 0 rfl (.refl _)))))) S116)
      intro c101 H120 hf S119
      refine v_iff hf (fun _ hf => ?_) (fun _ hf => ?_)
      ·
        refine g_ret (g_c ?_)
        rw [show false = true from hf]
        exact k _
      ·
        refine g_next ?_
        exact hN10 _ _ _ hf ⟨_, _, _, _, _, rfl, (M.sub (.cons 2 rfl (.cons 2 rfl (.tl (.tl (.tl (.refl _)))))) S119)⟩
    ·
      refine g_next ?_
      exact hN10 _ _ _ hf ⟨_, _, _, _, _, rfl, (M.sub (.cons 1 rfl (.cons 0 rfl (.refl _))) S19)⟩
  rintro s6 _ H122 hf ⟨u11, o13, o14, o15, o16, rfl, S121⟩
  obtain ⟨h123, hf⟩ := hf
  refine g_seq (g_for (g_iRng1 (g_cons (g_c (g_nil (v_itR h123 ?_))))))
  refine for_rng (β := Unit) hf (fun (s124 : Unit) σ H' => ∃ (o128 : Option V) (o129 : Option V) (o130 : Option V), σ = [some (V.ref sc), some (V.ref bag), some u11, o128, o129, o130, o15, o16] ∧ M (da K u11 ((eL eS) s6) :: bagR bag :: Rs) H') ⟨_, _, _, rfl, (M.sub (.cons 0 rfl (.cons 0 rfl (.refl _))) S121)⟩ ?_ ?_
  ·
    rintro x127 s124 _ H132 kk126 ⟨o128, o129, o130, rfl, S131⟩ hf
    refine g_name (g_seq (g_asgX (g_call (g_cons (g_var rfl (g_cons (g_var rfl (g_nil (⟨_, _, _, _, _, rfl, (M.at (M.addA S131 (EnF.at 0 rfl)) 2 rfl), hf, fun x134 u137 H136 hf (S135 : M (da K u137 ((eP (eD iS (eL eI)) (eD iS (eL eI))) x134) :: bagR bag :: da K u11 ((eL eS) s6) :: Rs) H136) => ?_⟩)))))))))
    obtain ⟨a141, u139, u140, e_a141, q_a141, S142⟩ := S135.openP 0 rfl
    subst e_a141
    refine g_gtup q_a141 rfl (g_gcons ?_)
    refine g_name (g_gcons ?_)
    refine g_name (g_gnil (g_nx ?_))
    have S145 : M (da K u139 ((eD iS (eL eI)) x134.1) :: da K u140 ((eD iS (eL eI)) x134.2) :: bagR bag :: da K u11 ((eL eS) s6) :: Rs) H136 := (M.drp S142 2)
    refine g_seq (g_if ?_)
    refine tt_cut hf (fun H => M (da K u139 ((eD iS (eL eI)) x134.1) :: da K u140 ((eD iS (eL eI)) x134.2) :: bagR bag :: da K u11 ((eL eS) s6) :: Rs) H) (fun kk147 P148 hP149 hf => ?_) ?_
    ·
      refine g_or (g_not (g_B (g_call (g_cons (g_var rfl (g_cons (g_var rfl (g_cons (g_var rfl (g_nil (⟨_, _, _, _, _, _, _, rfl, (M.at (M.addA (M.addA S145 (EnF.at 1 rfl)) (EnF.at 1 rfl)) 4 rfl), hf, fun x154 H156 hf (S155 : M (bagR bag :: da K u139 ((eD iS (eL eI)) x134.1) :: da K u140 ((eD iS (eL eI)) x134.2) :: da K u11 ((eL eS) s6) :: Rs) H156) => ?_⟩)))))))))))
      refine g_bl (v_iff hf (fun _ hf => ?_) (fun _ hf => ?_))
      ·
        exact hP149 _ _ hf (M.sub (.cons 1 rfl (.cons 1 rfl (.cons 0 rfl (.cons 0 rfl (.refl _))))) S155)
      ·
        refine g_not (g_B (g_call (g_cons (g_var rfl (g_cons (g_var rfl (g_cons (g_var rfl (g_nil (⟨_, _, _, _, _, _, _, rfl, (M.at (M.addA (M.addA S155 (EnF.at 1 rfl)) (EnF.at 3 rfl)) 2 rfl), hf, fun x160 H162 hf (S161 : M (bagR bag :: da K u139 ((eD iS (eL eI)) x134.1) :: da K u140 ((eD iS (eL eI)) x134.2) :: da K u11 ((eL eS) s6) :: Rs) H162) => ?_⟩))))))))))
        refine g_bl ?_
        exact hP149 _ _ hf (M.sub (.cons 1 rfl (.cons 1 rfl (.cons 0 rfl (.cons 0 rfl (.refl _))))) S161)
    intro c146 H165 hf S164
    refine v_iff hf (fun _ hf => ?_) (fun _ hf => ?_)
    ·
      refine g_ret (g_c ?_)
      rw [show false = true from hf]
      exact k _
    ·
      refine g_next (g_nx (g_if (g_not (g_B (g_call (g_cons (g_var rfl (g_cons (g_var rfl (g_cons (g_var rfl (g_nil (⟨_, _, _, _, _, _, _, rfl, (M.at (M.addA (M.addA S164 (EnF.at 0 rfl)) (EnF.at 1 rfl)) 4 rfl), hf, fun x168 H170 hf (S169 : M (bagR bag :: da K u139 ((eD iS (eL eI)) x134.1) :: da K u140 ((eD iS (eL eI)) x134.2) :: da K u11 ((eL eS) s6) :: Rs) H170) => ?_⟩)))))))))))))
      refine g_bl (v_iff hf (fun _ hf => ?_) (fun _ hf => ?_))
      ·
        refine g_ret (g_c ?_)
        rw [show false = true from hf]
        exact k _
      ·
        refine g_next ?_
        exact ⟨_, hf, _, _, _, rfl, (M.sub (.cons 3 rfl (.cons 0 rfl (.tl (.tl (.refl _))))) S169)⟩
  rintro s124 _ H173 hf ⟨o128, o129, o130, rfl, S172⟩
  refine g_nx ?_
  refine g_ret (g_op (g_callW (g_cons (v_dnewo S172 fun p174 H176 (S175 : M (adR K iS (eL eI) p174 ([] : (List (Str × (List Int)))) :: da K u11 ((eL eS) s6) :: bagR bag :: Rs) H176) => ?_))))
  refine v_fzD S175 0 rfl fun H179 (S178 : M (da K (V.ref p174) ((eD iS (eL eI)) ([] : (List (Str × (List Int))))) :: da K u11 ((eL eS) s6) :: bagR bag :: Rs) H179) => ?_
  refine g_cons (v_dnewo S178 fun p181 H183 (S182 : M (adR K iS (eL eI) p181 ([] : (List (Str × (List Int)))) :: da K (V.ref p174) ((eD iS (eL eI)) ([] : (List (Str × (List Int))))) :: da K u11 ((eL eS) s6) :: bagR bag :: Rs) H183) => ?_)
  refine v_fzD S182 0 rfl fun H186 (S185 : M (da K (V.ref p181) ((eD iS (eL eI)) ([] : (List (Str × (List Int))))) :: da K (V.ref p174) ((eD iS (eL eI)) ([] : (List (Str × (List Int))))) :: da K u11 ((eL eS) s6) :: bagR bag :: Rs) H186) => ?_
  refine g_nil (⟨_, _, _, _, _, _, _, rfl, (M.addA (M.addA S185 (EnF.at 0 rfl)) (EnF.at 2 rfl)), hf, fun x195 d196 v197 H199 hf (S198 : M (pt d196 (.xd [(x195.fld, v197)]) :: da K v197 x195.val :: da K (V.ref p181) ((eD iS (eL eI)) ([] : (List (Str × (List Int))))) :: da K (V.ref p174) ((eD iS (eL eI)) ([] : (List (Str × (List Int))))) :: da K u11 ((eL eS) s6) :: bagR bag :: Rs) H199) => ?_, fun x190 u193 H192 hf (S191 : M (lsR (odR K) u193 x190 :: da K (V.ref p181) ((eD iS (eL eI)) ([] : (List (Str × (List Int))))) :: da K (V.ref p174) ((eD iS (eL eI)) ([] : (List (Str × (List Int))))) :: da K u11 ((eL eS) s6) :: bagR bag :: Rs) H192) => ?_⟩)
  ·
    exact hf.elim
  have S203 : M (odR K (V.ref u193) (OD.ol x190) :: da K (V.ref p181) ((eD iS (eL eI)) ([] : (List (Str × (List Int))))) :: da K (V.ref p174) ((eD iS (eL eI)) ([] : (List (Str × (List Int))))) :: da K u11 ((eL eS) s6) :: bagR bag :: Rs) H192 := M.odC (M.at S191 0 rfl)
  have S205 : M (da K (V.ref u193) (eA ((OD.ol x190)).fgt) :: da K (V.ref p181) ((eD iS (eL eI)) ([] : (List (Str × (List Int))))) :: da K (V.ref p174) ((eD iS (eL eI)) ([] : (List (Str × (List Int))))) :: da K u11 ((eL eS) s6) :: bagR bag :: Rs) H192 := M.frzOD (M.at S203 0 rfl)
  refine g_lst (g_nil (v_lsto (ds := ([] : (List Int)).map eI) S205 EnF.nilA (len_ok rfl) fun p206 H208 (S207 : M (acR K p206 (([] : (List Int)).map eI) :: da K (V.ref u193) (eA ((OD.ol x190)).fgt) :: da K (V.ref p181) ((eD iS (eL eI)) ([] : (List (Str × (List Int))))) :: da K (V.ref p174) ((eD iS (eL eI)) ([] : (List (Str × (List Int))))) :: da K u11 ((eL eS) s6) :: bagR bag :: Rs) H208) => ?_))
  have S210 : M (da K (V.ref p206) ((eL eI) ([] : (List Int))) :: da K (V.ref u193) (eA ((OD.ol x190)).fgt) :: da K (V.ref p181) ((eD iS (eL eI)) ([] : (List (Str × (List Int))))) :: da K (V.ref p174) ((eD iS (eL eI)) ([] : (List (Str × (List Int))))) :: da K u11 ((eL eS) s6) :: bagR bag :: Rs) H208 := acR_fixL S207
  obtain ⟨h212, hf⟩ := hf
  refine v_eqq (M.gotA S210 1 rfl) (M.gotA S210 0 rfl) h212.1 h212.2 ?_
  rw [show (PyData.eqv (eA (((OD.ol x190)).fgt)) ((eL eI) ([] : (List Int)))) = true from hf]
  exact k _
def top (i : Nat) : Stmt := PySem.Challenge.pw_restorechain_k35_changes_told.main.body.getD i (.Pass ⟨0, 0, 0, 0⟩)
def meth (i j : Nat) : Stmt := (clsB (top i)).getD j (.Pass ⟨0, 0, 0, 0⟩)
abbrev s_l_bag : Stmt := top 16
abbrev s_l_take : Stmt := top 17
abbrev s_l_names : Stmt := top 19
abbrev s_l_sixty : Stmt := top 23
abbrev s_l_rows : Stmt := top 24
abbrev s_l_shuffled : Stmt := top 22
abbrev s_expect : Stmt := top 13
abbrev s_is_name : Stmt := top 7
abbrev s_is_whole : Stmt := top 6
abbrev s_are_wholes : Stmt := top 11
abbrev s_are_lists_by_name : Stmt := top 12
abbrev s_changes : Stmt := top 14
abbrev s_l_alike : Stmt := top 18
abbrev s_l_right : Stmt := top 25
abbrev s_l_list : Stmt := top 20
abbrev s_l_pair_of_dicts : Stmt := top 21
abbrev s_law : Stmt := top 26
abbrev s_Wrong___init__ : Stmt := meth 2 0
structure Txt (K : PySem.W.Frag) (mg : Str → Option Value) : Prop where
  F_l_bag : FunD K "_law_bag" "_law_bag" (defArgs s_l_bag) (defBody s_l_bag) (defScope s_l_bag) [] [] (He.ga K "_law_bag") (fdOf K (He.ga K "_law_bag"))
  F_l_take : FunD K "_law_take" "_law_take" (defArgs s_l_take) (defBody s_l_take) (defScope s_l_take) [] [] (He.ga K "_law_take") (fdOf K (He.ga K "_law_take"))
  F_l_names : FunD K "_law_names" "_law_names" (defArgs s_l_names) (defBody s_l_names) (defScope s_l_names) [] [] (He.ga K "_law_names") (fdOf K (He.ga K "_law_names"))
  F_l_sixty : FunD K "_law_sixty" "_law_sixty" (defArgs s_l_sixty) (defBody s_l_sixty) (defScope s_l_sixty) [] [] (He.ga K "_law_sixty") (fdOf K (He.ga K "_law_sixty"))
  F_l_rows : FunD K "_law_rows" "_law_rows" (defArgs s_l_rows) (defBody s_l_rows) (defScope s_l_rows) [] [] (He.ga K "_law_rows") (fdOf K (He.ga K "_law_rows"))
  F_l_shuffled : FunD K "_law_shuffled" "_law_shuffled" (defArgs s_l_shuffled) (defBody s_l_shuffled) (defScope s_l_shuffled) [] [] (He.ga K "_law_shuffled") (fdOf K (He.ga K "_law_shuffled"))
  F_expect : FunD K "expect" "expect" (defArgs s_expect) (defBody s_expect) (defScope s_expect) [] [] (He.ga K "expect") (fdOf K (He.ga K "expect"))
  F_is_name : FunD K "is_name" "is_name" (defArgs s_is_name) (defBody s_is_name) (defScope s_is_name) [] [] (He.ga K "is_name") (fdOf K (He.ga K "is_name"))
  F_is_whole : FunD K "is_whole" "is_whole" (defArgs s_is_whole) (defBody s_is_whole) (defScope s_is_whole) [] [] (He.ga K "is_whole") (fdOf K (He.ga K "is_whole"))
  F_are_wholes : FunD K "are_wholes" "are_wholes" (defArgs s_are_wholes) (defBody s_are_wholes) (defScope s_are_wholes) [] [] (He.ga K "are_wholes") (fdOf K (He.ga K "are_wholes"))
  F_are_lists_by_name : FunD K "are_lists_by_name" "are_lists_by_name" (defArgs s_are_lists_by_name) (defBody s_are_lists_by_name) (defScope s_are_lists_by_name) [] [] (He.ga K "are_lists_by_name") (fdOf K (He.ga K "are_lists_by_name"))
  F_changes : FunD K "changes" "changes" (defArgs s_changes) (defBody s_changes) (defScope s_changes) [] [] (He.ga K "changes") (fdOf K (He.ga K "changes"))
  F_l_alike : FunD K "_law_alike" "_law_alike" (defArgs s_l_alike) (defBody s_l_alike) (defScope s_l_alike) [] [] (He.ga K "_law_alike") (fdOf K (He.ga K "_law_alike"))
  F_l_right : FunD K "_law_right" "_law_right" (defArgs s_l_right) (defBody s_l_right) (defScope s_l_right) [] [] (He.ga K "_law_right") (fdOf K (He.ga K "_law_right"))
  F_l_list : FunD K "_law_list" "_law_list" (defArgs s_l_list) (defBody s_l_list) (defScope s_l_list) [] [] (He.ga K "_law_list") (fdOf K (He.ga K "_law_list"))
  F_l_pair_of_dicts : FunD K "_law_pair_of_dicts" "_law_pair_of_dicts" (defArgs s_l_pair_of_dicts) (defBody s_l_pair_of_dicts) (defScope s_l_pair_of_dicts) [] [] (He.ga K "_law_pair_of_dicts") (fdOf K (He.ga K "_law_pair_of_dicts"))
  F_law : FunD K "law" "law" (defArgs s_law) (defBody s_law) (defScope s_law) [] [] (He.ga K "law") (fdOf K (He.ga K "law"))
  F_Wrong___init__ : FunD K "__init__" "Wrong.__init__" (defArgs s_Wrong___init__) (defBody s_Wrong___init__) (defScope s_Wrong___init__) [] [] (mA K "Wrong" "__init__") (fdOf K (mA K "Wrong" "__init__"))
  c_LETTERS : ∃ t, mg "LETTERS" = some (.str "abcdefghijklmnopqrstuvwxyz" t)
  c_LONGEST : ∃ t, mg "LONGEST" = some (.int 8 t)
  c_MOST_LISTED : ∃ t, mg "MOST_LISTED" = some (.int 60 t)
  c_MOST_ROWS : ∃ t, mg "MOST_ROWS" = some (.int 60 t)
  g_l_bag : mg "_law_bag" = some (.ref (He.ga K "_law_bag"))
  g_l_take : mg "_law_take" = some (.ref (He.ga K "_law_take"))
  g_l_names : mg "_law_names" = some (.ref (He.ga K "_law_names"))
  g_l_sixty : mg "_law_sixty" = some (.ref (He.ga K "_law_sixty"))
  g_l_rows : mg "_law_rows" = some (.ref (He.ga K "_law_rows"))
  g_l_shuffled : mg "_law_shuffled" = some (.ref (He.ga K "_law_shuffled"))
  g_expect : mg "expect" = some (.ref (He.ga K "expect"))
  g_is_name : mg "is_name" = some (.ref (He.ga K "is_name"))
  g_is_whole : mg "is_whole" = some (.ref (He.ga K "is_whole"))
  g_are_wholes : mg "are_wholes" = some (.ref (He.ga K "are_wholes"))
  g_are_lists_by_name : mg "are_lists_by_name" = some (.ref (He.ga K "are_lists_by_name"))
  g_changes : mg "changes" = some (.ref (He.ga K "changes"))
  g_l_alike : mg "_law_alike" = some (.ref (He.ga K "_law_alike"))
  g_l_right : mg "_law_right" = some (.ref (He.ga K "_law_right"))
  g_l_list : mg "_law_list" = some (.ref (He.ga K "_law_list"))
  g_l_pair_of_dicts : mg "_law_pair_of_dicts" = some (.ref (He.ga K "_law_pair_of_dicts"))
  g_law : mg "law" = some (.ref (He.ga K "law"))
  cg_Wrong : mg "Wrong" = some (.ref (He.ga K "Wrong"))
  cg_StoreError : mg "StoreError" = some (.ref (He.ga K "StoreError"))
  xb_Wrong : XcB K (He.ga K "Wrong") "ValueError" "ValueError.__new__" "ValueError.__init__" (tlB "ValueError")
  xf_Wrong : PySem.W.findIn K (.ref (He.ga K "Wrong")) "__init__" = some (some (.ref (mA K "Wrong" "__init__"))) ∧ PySem.W.typeIn K (.ref (mA K "Wrong" "__init__")) = some (.type "function")
  xc_Wrong : ExcC K (He.ga K "Wrong")
  xn_Wrong_at : chN K "Wrong" "at" = true
  xi_StoreError : XcI K (He.ga K "StoreError") "ValueError.__init__"
  b_abs : mg "abs" = none
  b_len : mg "len" = none
  b_range : mg "range" = none
  b_sorted : mg "sorted" = none
  b_list : mg "list" = none
  b_isinstance : mg "isinstance" = none
  b_str : mg "str" = none
  b_int : mg "int" = none
  b_bool : mg "bool" = none
  b_all : mg "all" = none
  b_dict : mg "dict" = none
  b_set : mg "set" = none
  b_repr : mg "repr" = none
  b_enumerate : mg "enumerate" = none
theorem Txt.c {K : PySem.W.Frag} {mg : Str → Option Value} (T : Txt K mg) : TxC K := ⟨T.xc_Wrong, T.xn_Wrong_at⟩
section
variable {P : Program} {w : World} {K : PySem.W.Frag} {mg : Str → Option Value} {base : Heap}
theorem sc_Wrong___init__ : FnScope ["self", "at"] ["self", "at"] (defScope s_Wrong___init__) := ⟨rfl, rfl, rfl, by decide +kernel, rfl, by decide +kernel, by decide +kernel⟩
theorem bd_Wrong___init__ (T : Txt K mg) : Binds K (fdOf K (mA K "Wrong" "__init__")) ["self", "at"] [] := T.F_Wrong___init__.bindsN fun _ _ _ _ _ _ us hl => match us, hl with | [_, _], _ => rfl
theorem ok_Wrong___init__ (T : Txt K mg) : FnX false P w K mg base CX0 1 (mA K "Wrong" "__init__") (fdOf K (mA K "Wrong" "__init__")) ["self", "at"] (spX (He.ga K "Wrong") "at") := by
  refine okX T.F_Wrong___init__ sc_Wrong___init__ lenX (fun cdv A outer s H vs Q E hgu0 hr h => ⟨_, PSs.nox ?_, pureX (msg := "not what is wanted here") rfl T.xb_Wrong (chN_ok T.xn_Wrong_at) vs H Q E h⟩)
  exact (pss_cons (ps_expr (pe_xi rfl T.cg_StoreError T.xi_StoreError (pa_cons (pv 0) (pa_cons pe_str pa_nil)))) (pss_one (ps_xs (pv 0) (pv 1))))
theorem sc_l_bag : FnScope ["_law_script", "_law_cell"] ["_law_script"] (defScope s_l_bag) := ⟨rfl, rfl, rfl, by decide +kernel, rfl, by decide +kernel, by decide +kernel⟩
theorem bd_l_bag (T : Txt K mg) : Binds K (fdOf K (He.ga K "_law_bag")) ["_law_script"] [] := T.F_l_bag.bindsN fun _ _ _ _ _ _ us hl => match us, hl with | [_], _ => rfl
theorem ok_l_bag (T : Txt K mg) (nd : NDX base) : FnX false P w K mg base CX0 1 (He.ga K "_law_bag") (fdOf K (He.ga K "_law_bag")) ["_law_script"] (sp_l_bag K) := by
  refine okX T.F_l_bag sc_l_bag len_l_bag (fun cdv A outer s H vs Q E hgu0 hr h => ⟨t_l_bag K, PSs.nox ?_, pure_l_bag vs H Q E h⟩)
  exact (pss_one (ps_ret (pe_lst (pa_cons pe_int (pa_cons pe_int (pa_cons pe_int (pa_cons (pe_lc (own := [("_law_cell", 1)]) (g := (gName 1)) (tt := tYes) rfl sc_l_bag.nd (pi_list (pe_slice sl_any (pv 0) po_none (po_some pe_int))) (blkOk_by (own := [("_law_cell", 1)]) (N := ["_law_script", "_law_cell"]) (sc := defScope s_l_bag) (by decide +kernel)) (fun _ _ _ _ _ => (pg_name (i := 1) sc_l_bag.nd rfl (by first | exact Or.inl rfl | exact Or.inr rfl))) (fun _ _ _ _ _ => pts_nil) (fun _ _ _ _ _ => (pe_callB cr_abs (by rfl) T.b_abs (by decide +kernel) (pa_cons (pv 1) pa_nil)))) pa_nil)))))))
theorem sc_l_take : FnScope ["_law_bag_here", "_law_many", "_law_first", "_law_second", "_law_cell", "_law_value"] ["_law_bag_here", "_law_many"] (defScope s_l_take) := ⟨rfl, rfl, rfl, by decide +kernel, rfl, by decide +kernel, by decide +kernel⟩
theorem bd_l_take (T : Txt K mg) : Binds K (fdOf K (He.ga K "_law_take")) ["_law_bag_here", "_law_many"] [] := T.F_l_take.bindsN fun _ _ _ _ _ _ us hl => match us, hl with | [_, _], _ => rfl
theorem ok_l_take (T : Txt K mg) (nd : NDX base) : FnX false P w K mg base CX0 1 (He.ga K "_law_take") (fdOf K (He.ga K "_law_take")) ["_law_bag_here", "_law_many"] (sp_l_take K) := by
  refine okX T.F_l_take sc_l_take len_l_take (fun cdv A outer s H vs Q E hgu0 hr h => ⟨t_l_take K, PSs.nox ?_, pure_l_take vs H Q E h⟩)
  exact (pss_cons (ps_if (pt_cmpR (uo_eq hr.units) (pe_ix ix_any (pv 0) pe_int (fun _ _ => rfl)) pe_int (nomark _)) (pss_cons (ps_set (i := 4) sc_l_take.nd rfl (by first | exact Or.inl rfl | exact Or.inr rfl) pe_int)
      (pss_cons (ps_if (pt_cmpR uo_lt (pe_ix ix_any (pv 0) pe_int (fun _ _ => rfl)) (pe_callB cr_len (by rfl) T.b_len (by decide +kernel) (pa_cons (pe_ix ix_any (pv 0) pe_int (fun _ _ => rfl)) pa_nil)) (nomark _)) (pss_one (ps_set (i := 4) sc_l_take.nd rfl (by first | exact Or.inl rfl | exact Or.inr rfl) (pe_ix ix_any (pe_ix ix_any (pv 0) pe_int (fun _ _ => rfl)) (pe_ix ix_any (pv 0) pe_int (fun _ _ => rfl)) (fun _ _ => rfl)))) pss_nil)
      (pss_cons (ps_augS (pv 0) pe_int (get_any hr.u1) pe_int (ip_of io_add) (set_any hr.u1))
      (pss_cons (ps_if (pt_cmpR uo_ge (pv 4) pe_int (nomark _)) (pss_one (ps_asg (pv 4) (pg_sub (pv 0) pe_int (set_any hr.u1)))) pss_nil)
      (pss_one (ps_asg (pe_op uo_mod (pe_op uo_add (pe_op uo_add (pe_op uo_mul (pe_ix ix_any (pv 0) pe_int (fun _ _ => rfl)) pe_int) (pe_op uo_mod (pv 4) pe_int)) (pe_op uo_mul pe_int (pe_ix ix_any (pv 0) pe_int (fun _ _ => rfl)))) pe_int) (pg_sub (pv 0) pe_int (set_any hr.u1)))))))) pss_nil)
      (pss_cons (ps_if (pt_cmpR uo_gt (pe_ix ix_any (pv 0) pe_int (fun _ _ => rfl)) pe_int (nomark _)) (pss_cons (ps_set (i := 5) sc_l_take.nd rfl (by first | exact Or.inl rfl | exact Or.inr rfl) (pe_op uo_mod (pe_ix ix_any (pv 0) pe_int (fun _ _ => rfl)) (pv 1)))
      (pss_cons (ps_asg (pe_op uo_div (pe_ix ix_any (pv 0) pe_int (fun _ _ => rfl)) (pv 1)) (pg_sub (pv 0) pe_int (set_any hr.u1)))
      (pss_one (ps_ret (pv 5))))) pss_nil)
      (pss_cons (ps_set (i := 2) sc_l_take.nd rfl (by first | exact Or.inl rfl | exact Or.inr rfl) (pe_op uo_mod (pe_op uo_mul (pe_op uo_add (pe_ix ix_any (pv 0) pe_int (fun _ _ => rfl)) pe_int) pe_int) pe_int))
      (pss_cons (ps_set (i := 3) sc_l_take.nd rfl (by first | exact Or.inl rfl | exact Or.inr rfl) (pe_op uo_mod (pe_op uo_mul (pe_op uo_mod (pe_op uo_mul (pv 2) (pv 2)) pe_int) pe_int) pe_int))
      (pss_cons (ps_if (pt_cmpR uo_gt (pv 1) pe_int (nomark _)) (pss_one (ps_ret (pe_op uo_mod (pe_op uo_add (pe_op uo_mul (pv 3) pe_int) (pv 2)) (pv 1)))) pss_nil)
      (pss_one (ps_ret (pe_op uo_mod (pe_op uo_div (pv 3) pe_int) (pv 1)))))))))
theorem sc_l_names : FnScope ["_law_bag_here", "_law_many", "_law_letters", "_law_words", "_law_pick", "_law_turn", "_law_size", "_law_at", "_law_base", "_law_k"] ["_law_bag_here", "_law_many"] (defScope s_l_names) := ⟨rfl, rfl, rfl, by decide +kernel, rfl, by decide +kernel, by decide +kernel⟩
theorem bd_l_names (T : Txt K mg) : Binds K (fdOf K (He.ga K "_law_names")) ["_law_bag_here", "_law_many"] [] := T.F_l_names.bindsN fun _ _ _ _ _ _ us hl => match us, hl with | [_, _], _ => rfl
theorem ok_l_names (T : Txt K mg) (nd : NDX base) : FnX false P w K mg base CX0 2 (He.ga K "_law_names") (fdOf K (He.ga K "_law_names")) ["_law_bag_here", "_law_many"] (sp_l_names K) := by
  refine okX T.F_l_names sc_l_names len_l_names (fun cdv A outer s H vs Q E hgu0 hr h => ⟨t_l_names K, PSs.nox ?_, pure_l_names vs H Q E h⟩)
  exact (pss_cons (ps_set (i := 2) sc_l_names.nd rfl (by first | exact Or.inl rfl | exact Or.inr rfl) pe_str)
      (pss_cons (ps_set (i := 3) sc_l_names.nd rfl (by first | exact Or.inl rfl | exact Or.inr rfl) (pe_lst (pa_cons pe_str (pa_cons pe_str (pa_cons pe_str (pa_cons pe_str (pa_cons pe_str (pa_cons pe_str (pa_cons pe_str (pa_cons pe_str (pa_cons pe_str (pa_cons pe_str (pa_cons pe_str (pa_cons pe_str pa_nil))))))))))))))
      (pss_cons (ps_set (i := 4) sc_l_names.nd rfl (by first | exact Or.inl rfl | exact Or.inr rfl) (pe_callX (ok_l_take T nd) (fun z => nomatch z) hr rfl T.g_l_take T.F_l_take.kp (bd_l_take T) .nil pass0 (pa_cons (pv 0) (pa_cons pe_int pa_nil))))
      (pss_cons (ps_set (i := 5) sc_l_names.nd rfl (by first | exact Or.inl rfl | exact Or.inr rfl) (pe_callX (ok_l_take T nd) (fun z => nomatch z) hr rfl T.g_l_take T.F_l_take.kp (bd_l_take T) .nil pass0 (pa_cons (pv 0) (pa_cons pe_int pa_nil))))
      (pss_cons (ps_set (i := 6) sc_l_names.nd rfl (by first | exact Or.inl rfl | exact Or.inr rfl) (pe_op uo_add pe_int (pe_callX (ok_l_take T nd) (fun z => nomatch z) hr rfl T.g_l_take T.F_l_take.kp (bd_l_take T) .nil pass0 (pa_cons (pv 0) (pa_cons pe_int pa_nil)))))
      (pss_cons (ps_set (i := 7) sc_l_names.nd rfl (by first | exact Or.inl rfl | exact Or.inr rfl) (pe_callX (ok_l_take T nd) (fun z => nomatch z) hr rfl T.g_l_take T.F_l_take.kp (bd_l_take T) .nil pass0 (pa_cons (pv 0) (pa_cons (pv 6) pa_nil))))
      (pss_cons (ps_set (i := 8) sc_l_names.nd rfl (by first | exact Or.inl rfl | exact Or.inr rfl) (pe_lc (own := [("_law_k", 9)]) (g := (gName 9)) (tt := tYes) rfl sc_l_names.nd (pi_range1 (by rfl) T.b_range (pa_cons (pv 6) pa_nil)) (blkOk_by (own := [("_law_k", 9)]) (N := ["_law_bag_here", "_law_many", "_law_letters", "_law_words", "_law_pick", "_law_turn", "_law_size", "_law_at", "_law_base", "_law_k"]) (sc := defScope s_l_names) (by decide +kernel)) (fun _ _ _ _ _ => (pg_name (i := 9) sc_l_names.nd rfl (by first | exact Or.inl rfl | exact Or.inr rfl))) (fun _ _ _ _ _ => pts_nil) (fun _ _ _ _ _ => (pe_ix ix_any (pv 2) (pe_callX (ok_l_take T nd) (fun z => nomatch z) hr rfl T.g_l_take T.F_l_take.kp (bd_l_take T) .nil pass0 (pa_cons (pv 0) (pa_cons pe_int pa_nil))) (fun _ _ => rfl)))))
      (pss_cons (ps_if (pt_cmpR (uo_eq hr.units) (pv 4) pe_int (nomark _)) (pss_one (ps_ret (pe_slice sl_any (pe_slice sl_any (pe_op uo_add (pv 3) (pv 3)) (po_some (pe_op uo_mod (pv 5) pe_int)) po_none) po_none (po_some (pv 1))))) pss_nil)
      (pss_one (ps_ret (pe_lc (own := [("_law_k", 9)]) (g := (gName 9)) (tt := tYes) rfl sc_l_names.nd (pi_range1 (by rfl) T.b_range (pa_cons (pv 1) pa_nil)) (blkOk_by (own := [("_law_k", 9)]) (N := ["_law_bag_here", "_law_many", "_law_letters", "_law_words", "_law_pick", "_law_turn", "_law_size", "_law_at", "_law_base", "_law_k"]) (sc := defScope s_l_names) (by decide +kernel)) (fun _ _ _ _ _ => (pg_name (i := 9) sc_l_names.nd rfl (by first | exact Or.inl rfl | exact Or.inr rfl))) (fun _ _ _ _ _ => pts_nil) (fun _ _ _ _ _ => (pe_join pe_str (pe_op uo_add (pe_op uo_add (pe_slice sl_any (pv 8) po_none (po_some (pv 7))) (pe_lst (pa_cons (pe_ix ix_any (pv 2) (pe_op uo_mod (pe_op uo_add (pv 5) (pv 9)) pe_int) (fun _ _ => rfl)) pa_nil))) (pe_slice sl_any (pv 8) (po_some (pe_op uo_add (pv 7) pe_int)) po_none)))))))))))))))
theorem sc_l_sixty : FnScope ["_law_letters", "_law_k"] [] (defScope s_l_sixty) := ⟨rfl, rfl, rfl, by decide +kernel, rfl, by decide +kernel, by decide +kernel⟩
theorem bd_l_sixty (T : Txt K mg) : Binds K (fdOf K (He.ga K "_law_sixty")) [] [] := T.F_l_sixty.bindsN fun _ _ _ _ _ _ us hl => match us, hl with | [], _ => rfl
theorem ok_l_sixty (T : Txt K mg) (nd : NDX base) : FnX false P w K mg base CX0 1 (He.ga K "_law_sixty") (fdOf K (He.ga K "_law_sixty")) [] (sp_l_sixty K) := by
  refine okX T.F_l_sixty sc_l_sixty len_l_sixty (fun cdv A outer s H vs Q E hgu0 hr h => ⟨t_l_sixty K, PSs.nox ?_, pure_l_sixty vs H Q E h⟩)
  exact (pss_cons (ps_set (i := 0) sc_l_sixty.nd rfl (by first | exact Or.inl rfl | exact Or.inr rfl) pe_str)
      (pss_one (ps_ret (pe_lc (own := [("_law_k", 1)]) (g := (gName 1)) (tt := tYes) rfl sc_l_sixty.nd (pi_range1 (by rfl) T.b_range (pa_cons pe_int pa_nil)) (blkOk_by (own := [("_law_k", 1)]) (N := ["_law_letters", "_law_k"]) (sc := defScope s_l_sixty) (by decide +kernel)) (fun _ _ _ _ _ => (pg_name (i := 1) sc_l_sixty.nd rfl (by first | exact Or.inl rfl | exact Or.inr rfl))) (fun _ _ _ _ _ => pts_nil) (fun _ _ _ _ _ => (pe_op uo_add (pe_ix ix_any (pv 0) (pe_op uo_div (pv 1) pe_int) (fun _ _ => rfl)) (pe_ix ix_any (pv 0) (pe_op uo_mod (pv 1) pe_int) (fun _ _ => rfl))))))))
theorem sc_l_rows : FnScope ["_law_elder", "_law_newer", "_law_rows_here", "_law_name"] ["_law_elder", "_law_newer"] (defScope s_l_rows) := ⟨rfl, rfl, rfl, by decide +kernel, rfl, by decide +kernel, by decide +kernel⟩
theorem bd_l_rows (T : Txt K mg) : Binds K (fdOf K (He.ga K "_law_rows")) ["_law_elder", "_law_newer"] [] := T.F_l_rows.bindsN fun _ _ _ _ _ _ us hl => match us, hl with | [_, _], _ => rfl
theorem ok_l_rows (T : Txt K mg) (nd : NDX base) : FnX false P w K mg base CX0 1 (He.ga K "_law_rows") (fdOf K (He.ga K "_law_rows")) ["_law_elder", "_law_newer"] (sp_l_rows K) := by
  refine okX T.F_l_rows sc_l_rows len_l_rows (fun cdv A outer s H vs Q E hgu0 hr h => ⟨t_l_rows K, PSs.nox ?_, pure_l_rows vs H Q E h⟩)
  exact (pss_cons (ps_set (i := 2) sc_l_rows.nd rfl (by first | exact Or.inl rfl | exact Or.inr rfl) (pe_lst pa_nil))
      (pss_cons (ps_for PassesOwn.never rfl (pi_list (pe_callB cr_soL (by rfl) T.b_sorted (by decide +kernel) (pa_cons (pe_op uo_add (pe_callTy (cr_listK rfl) (by rfl) T.b_list (by decide +kernel) (pa_cons (pv 0) pa_nil)) (pe_lk (pe_lc (own := [("_law_name", 3)]) (g := (gName 3)) (tt := (tTest (tOp (uNotIn K) (tVar 3) (tVar 0)))) rfl sc_l_rows.nd (pi_keys (pv 1)) (blkOk_by (own := [("_law_name", 3)]) (N := ["_law_elder", "_law_newer", "_law_rows_here", "_law_name"]) (sc := defScope s_l_rows) (by decide +kernel)) (fun _ _ _ _ _ => (pg_name (i := 3) sc_l_rows.nd rfl (by first | exact Or.inl rfl | exact Or.inr rfl))) (fun _ _ _ _ _ => (pts_one (pt_cmpR (uo_notinU hr.u65) (pv 3) (pv 0) (by rfl)))) (fun _ _ _ _ _ => (pv 3))))) pa_nil))) (pg_name (i := 3) sc_l_rows.nd rfl (by first | exact Or.inl rfl | exact Or.inr rfl)) (pss_one (ps_if (pt_cmpR (uo_notinU hr.u65) (pv 3) (pv 1) (by rfl)) (pss_one (ps_expr (pe_bm PySem.F.plainAttrs_list PySem.F.slot_list_append PySem.F.type_list_append mt_append (pv 2) (pa_cons (pe_tup (pa_cons pe_str (pa_cons (pv 3) pa_nil))) pa_nil)))) (pss_one (ps_if (pt_cmpR (uo_ne hr.units) (pe_dget1 hr.u1 (pv 0) (pv 3) ⟨by rfl, by rfl, by rfl, by rfl⟩) (pe_ix (ix_dk hr.u1) (pv 1) (pv 3) (fun _ _ => rfl)) (nomark _)) (pss_one (ps_expr (pe_bm PySem.F.plainAttrs_list PySem.F.slot_list_append PySem.F.type_list_append mt_append (pv 2) (pa_cons (pe_tup (pa_cons pe_str (pa_cons (pv 3) (pa_cons (pe_callTy cr_list (by rfl) T.b_list (by decide +kernel) (pa_cons (pe_ix (ix_dk hr.u1) (pv 1) (pv 3) (fun _ _ => rfl)) pa_nil)) pa_nil)))) pa_nil)))) pss_nil)))))
      (pss_one (ps_ret (pv 2)))))
theorem sc_l_shuffled : FnScope ["_law_bag_here", "_law_files", "_law_names_here", "_law_found", "_law_name", "_law_same", "_law_one"] ["_law_bag_here", "_law_files"] (defScope s_l_shuffled) := ⟨rfl, rfl, rfl, by decide +kernel, rfl, by decide +kernel, by decide +kernel⟩
theorem bd_l_shuffled (T : Txt K mg) : Binds K (fdOf K (He.ga K "_law_shuffled")) ["_law_bag_here", "_law_files"] [] := T.F_l_shuffled.bindsN fun _ _ _ _ _ _ us hl => match us, hl with | [_, _], _ => rfl
theorem ok_l_shuffled (T : Txt K mg) (nd : NDX base) : FnX false P w K mg base CX0 2 (He.ga K "_law_shuffled") (fdOf K (He.ga K "_law_shuffled")) ["_law_bag_here", "_law_files"] (sp_l_shuffled K) := by
  refine okX T.F_l_shuffled sc_l_shuffled len_l_shuffled (fun cdv A outer s H vs Q E hgu0 hr h => ⟨t_l_shuffled K, PSs.nox ?_, pure_l_shuffled vs H Q E h⟩)
  exact (pss_cons (ps_set (i := 2) sc_l_shuffled.nd rfl (by first | exact Or.inl rfl | exact Or.inr rfl) (pe_callB (cr_soDS rfl) (by rfl) T.b_sorted (by decide +kernel) (pa_cons (pv 1) pa_nil)))
      (pss_cons (ps_set (i := 3) sc_l_shuffled.nd rfl (by first | exact Or.inl rfl | exact Or.inr rfl) pe_dnewK)
      (pss_cons (ps_while PassesOwn.never (pt_cmpR (uo_ne hr.units) (pv 2) (pe_lst pa_nil) (nomark _)) (pss_cons (ps_set (i := 4) sc_l_shuffled.nd rfl (by first | exact Or.inl rfl | exact Or.inr rfl) (pe_bm PySem.F.plainAttrs_list PySem.F.slot_list_pop PySem.F.type_list_pop mt_popR (pv 2) (pa_cons (pe_callX (ok_l_take T nd) (fun z => nomatch z) hr rfl T.g_l_take T.F_l_take.kp (bd_l_take T) .nil pass0 (pa_cons (pv 0) (pa_cons (pe_callB cr_len (by rfl) T.b_len (by decide +kernel) (pa_cons (pv 2) pa_nil)) pa_nil))) pa_nil)))
      (pss_cons (ps_lk (ps_setLc (i := 5) (own := [("_law_one", 6)]) (g := (gName 6)) (tt := (tTest (tOp (uEq K) (tOp rIxK (tVar 3) (tVar 6)) (tOp rIxK (tVar 1) (tVar 4))))) rfl sc_l_shuffled.nd rfl rfl (sw_true rfl rfl rfl (by decide +kernel)) (pi_keys (pv 3)) (blkOk_by (own := [("_law_one", 6)]) (N := ["_law_bag_here", "_law_files", "_law_names_here", "_law_found", "_law_name", "_law_same", "_law_one"]) (sc := defScope s_l_shuffled) (by decide +kernel)) (fun _ _ _ _ _ => (pg_name (i := 6) sc_l_shuffled.nd rfl (by first | exact Or.inl rfl | exact Or.inr rfl))) (fun _ _ _ _ _ => (pts_one (pt_cmpR (uo_eq hr.units) (pe_ix (ix_dk hr.u1) (pv 3) (pv 6) (fun _ _ => rfl)) (pe_ix (ix_dk hr.u1) (pv 1) (pv 4) (fun _ _ => rfl)) (nomark _)))) (fun _ _ _ _ _ => (pe_ix (ix_dk hr.u1) (pv 3) (pv 6) (fun _ _ => rfl)))))
      (pss_one (ps_asg (pe_ix ix_any (pe_op uo_add (pe_op op_rep (pv 5) (pe_callX (ok_l_take T nd) (fun z => nomatch z) hr rfl T.g_l_take T.F_l_take.kp (bd_l_take T) .nil pass0 (pa_cons (pv 0) (pa_cons pe_int pa_nil)))) (pe_lst (pa_cons (pe_callTy cr_list (by rfl) T.b_list (by decide +kernel) (pa_cons (pe_ix (ix_dk hr.u1) (pv 1) (pv 4) (fun _ _ => rfl)) pa_nil)) pa_nil))) pe_int (fun _ _ => rfl)) (pg_sub (pv 3) (pv 4) (set_any hr.u1)))))))
      (pss_one (ps_ret (pe_fz (pv 3)))))))
theorem sc_expect : FnScope ["at", "fits"] ["at", "fits"] (defScope s_expect) := ⟨rfl, rfl, rfl, by decide +kernel, rfl, by decide +kernel, by decide +kernel⟩
theorem bd_expect (T : Txt K mg) : Binds K (fdOf K (He.ga K "expect")) ["at", "fits"] [] := T.F_expect.bindsN fun _ _ _ _ _ _ us hl => match us, hl with | [_, _], _ => rfl
theorem ok_expect (T : Txt K mg) (nd : NDX base) : FnX false P w K mg base (L2.CX P w) 3 (He.ga K "expect") (fdOf K (He.ga K "expect")) ["at", "fits"] (sp_expect K) := by
  refine okW T.F_expect sc_expect len_expect (fun cdv A outer s H vs Q E hgu0 hr h tk pw => ⟨t_expect K (WT E), ?_, pure_expect T.c vs H Q E h⟩)
  exact (pss_one (ps_if (pt_not (pt_val (pv 1))) (pss_one (ps_rz rfl tk T.xb_Wrong T.xf_Wrong.1 T.xf_Wrong.2 (ok_Wrong___init__ T) (hr.mono (by decide)) (bd_Wrong___init__ T) (fun _ _ _ _ _ _ _ z => z.elim) rfl T.cg_Wrong (pv 0))) pss_nil))
theorem sc_is_name : FnScope ["thing", "letter"] ["thing"] (defScope s_is_name) := ⟨rfl, rfl, rfl, by decide +kernel, rfl, by decide +kernel, by decide +kernel⟩
theorem bd_is_name (T : Txt K mg) : Binds K (fdOf K (He.ga K "is_name")) ["thing"] [] := T.F_is_name.bindsN fun _ _ _ _ _ _ us hl => match us, hl with | [_], _ => rfl
theorem ok_is_name (T : Txt K mg) (nd : NDX base) : FnX false P w K mg base CX0 1 (He.ga K "is_name") (fdOf K (He.ga K "is_name")) ["thing"] (sp_is_name K) := by
  refine okX T.F_is_name sc_is_name len_is_name (fun cdv A outer s H vs Q E hgu0 hr h => ⟨t_is_name K, PSs.nox ?_, pure_is_name vs H Q E h⟩)
  exact (pss_cons (ps_if (PW.pt (pw_or (pt_not (pt_val (pe_callB cr_isiQ (by rfl) T.b_isinstance (by decide +kernel) (pa_cons (pv 0) (pa_cons (pe_bltn (by rfl) T.b_str (by decide +kernel) rfl) pa_nil))))) (pw_or1 (pt_not (pt_chain uo_le uo_le pe_int (pe_callB cr_len (by rfl) T.b_len (by decide +kernel) (pa_cons (pv 0) pa_nil)) (pe_globI rfl T.c_LONGEST)))))) (pss_one (ps_ret pe_bl)) pss_nil)
      (pss_cons (ps_for PassesOwn.never rfl (pi_str (pv 0)) (pg_name (i := 1) sc_is_name.nd rfl (by first | exact Or.inl rfl | exact Or.inr rfl)) (pss_one (ps_if (pt_cmpR (uo_notinU hr.u65) (pv 1) (pe_globS rfl T.c_LETTERS) (by rfl)) (pss_one (ps_ret pe_bl)) pss_nil)))
      (pss_one (ps_ret pe_bl))))
theorem sc_is_whole : FnScope ["thing"] ["thing"] (defScope s_is_whole) := ⟨rfl, rfl, rfl, by decide +kernel, rfl, by decide +kernel, by decide +kernel⟩
theorem bd_is_whole (T : Txt K mg) : Binds K (fdOf K (He.ga K "is_whole")) ["thing"] [] := T.F_is_whole.bindsN fun _ _ _ _ _ _ us hl => match us, hl with | [_], _ => rfl
theorem ok_is_whole (T : Txt K mg) (nd : NDX base) : FnX false P w K mg base CX0 1 (He.ga K "is_whole") (fdOf K (He.ga K "is_whole")) ["thing"] (sp_is_whole K) := by
  refine okX T.F_is_whole sc_is_whole len_is_whole (fun cdv A outer s H vs Q E hgu0 hr h => ⟨t_is_whole K, PSs.nox ?_, pure_is_whole vs H Q E h⟩)
  exact (pss_one (ps_ret (pe_and (pe_callB cr_isiQ (by rfl) T.b_isinstance (by decide +kernel) (pa_cons (pv 0) (pa_cons (pe_bltn (by rfl) T.b_int (by decide +kernel) rfl) pa_nil))) (pe_one (pe_not (pe_callB cr_isiQ (by rfl) T.b_isinstance (by decide +kernel) (pa_cons (pv 0) (pa_cons (pe_bltn (by rfl) T.b_bool (by decide +kernel) rfl) pa_nil))))))))
theorem sc_are_wholes : FnScope ["thing", "one"] ["thing"] (defScope s_are_wholes) := ⟨rfl, rfl, rfl, by decide +kernel, rfl, by decide +kernel, by decide +kernel⟩
theorem bd_are_wholes (T : Txt K mg) : Binds K (fdOf K (He.ga K "are_wholes")) ["thing"] [] := T.F_are_wholes.bindsN fun _ _ _ _ _ _ us hl => match us, hl with | [_], _ => rfl
theorem ok_are_wholes (T : Txt K mg) (nd : NDX base) : FnX false P w K mg base CX0 2 (He.ga K "are_wholes") (fdOf K (He.ga K "are_wholes")) ["thing"] (sp_are_wholes K) := by
  refine okX T.F_are_wholes sc_are_wholes len_are_wholes (fun cdv A outer s H vs Q E hgu0 hr h => ⟨t_are_wholes K, PSs.nox ?_, pure_are_wholes vs H Q E h⟩)
  exact (pss_one (ps_ret (pe_and (pe_callB cr_isiQ (by rfl) T.b_isinstance (by decide +kernel) (pa_cons (pv 0) (pa_cons (pe_bltn (by rfl) T.b_list (by decide +kernel) rfl) pa_nil))) (pe_and (pe_cmpR uo_le (pe_callB cr_len (by rfl) T.b_len (by decide +kernel) (pa_cons (pv 0) pa_nil)) (pe_globI rfl T.c_MOST_LISTED) (nomark _)) (pe_one (pe_callB (cr_all rfl) (by rfl) T.b_all (by decide +kernel) (pa_cons (pe_lc (own := [("one", 1)]) (g := (gName 1)) (tt := tYes) rfl sc_are_wholes.nd (pi_list (pv 0)) (blkOk_by (own := [("one", 1)]) (N := ["thing", "one"]) (sc := defScope s_are_wholes) (by decide +kernel)) (fun _ _ _ _ _ => (pg_name (i := 1) sc_are_wholes.nd rfl (by first | exact Or.inl rfl | exact Or.inr rfl))) (fun _ _ _ _ _ => pts_nil) (fun _ _ _ _ _ => (pe_callX (ok_is_whole T nd) (fun z => nomatch z) hr rfl T.g_is_whole T.F_is_whole.kp (bd_is_whole T) .nil pass0 (pa_cons (pv 1) pa_nil)))) pa_nil)))))))
theorem sc_are_lists_by_name : FnScope ["thing", "name"] ["thing"] (defScope s_are_lists_by_name) := ⟨rfl, rfl, rfl, by decide +kernel, rfl, by decide +kernel, by decide +kernel⟩
theorem bd_are_lists_by_name (T : Txt K mg) : Binds K (fdOf K (He.ga K "are_lists_by_name")) ["thing"] [] := T.F_are_lists_by_name.bindsN fun _ _ _ _ _ _ us hl => match us, hl with | [_], _ => rfl
theorem ok_are_lists_by_name (T : Txt K mg) (nd : NDX base) : FnX false P w K mg base CX0 3 (He.ga K "are_lists_by_name") (fdOf K (He.ga K "are_lists_by_name")) ["thing"] (sp_are_lists_by_name K) := by
  refine okX T.F_are_lists_by_name sc_are_lists_by_name len_are_lists_by_name (fun cdv A outer s H vs Q E hgu0 hr h => ⟨t_are_lists_by_name K, PSs.nox ?_, pure_are_lists_by_name vs H Q E h⟩)
  exact (pss_cons (ps_if (PW.pt (pw_or (pt_not (pt_val (pe_callB cr_isiQ (by rfl) T.b_isinstance (by decide +kernel) (pa_cons (pv 0) (pa_cons (pe_bltn (by rfl) T.b_dict (by decide +kernel) rfl) pa_nil))))) (pw_or1 (pt_cmpR uo_gt (pe_callB cr_len (by rfl) T.b_len (by decide +kernel) (pa_cons (pv 0) pa_nil)) (pe_globI rfl T.c_MOST_ROWS) (nomark _))))) (pss_one (ps_ret pe_bl)) pss_nil)
      (pss_one (ps_ret (pe_callB (cr_all rfl) (by rfl) T.b_all (by decide +kernel) (pa_cons (pe_lk (pe_lc (own := [("name", 1)]) (g := (gName 1)) (tt := tYes) rfl sc_are_lists_by_name.nd (pi_keys (pv 0)) (blkOk_by (own := [("name", 1)]) (N := ["thing", "name"]) (sc := defScope s_are_lists_by_name) (by decide +kernel)) (fun _ _ _ _ _ => (pg_name (i := 1) sc_are_lists_by_name.nd rfl (by first | exact Or.inl rfl | exact Or.inr rfl))) (fun _ _ _ _ _ => pts_nil) (fun _ _ _ _ _ => (pe_and (pe_callX (ok_is_name T nd) (fun z => nomatch z) (hr.mono (by decide)) rfl T.g_is_name T.F_is_name.kp (bd_is_name T) .nil pass0 (pa_cons (pv 1) pa_nil)) (pe_one (pe_callX (ok_are_wholes T nd) (fun z => nomatch z) hr rfl T.g_are_wholes T.F_are_wholes.kp (bd_are_wholes T) .nil pass0 (pa_cons (pe_ix (ix_dk hr.u1) (pv 0) (pv 1) (fun _ _ => rfl)) pa_nil))))))) pa_nil)))))
theorem sc_changes : FnScope ["elder", "newer", "rows", "name"] ["elder", "newer"] (defScope s_changes) := ⟨rfl, rfl, rfl, by decide +kernel, rfl, by decide +kernel, by decide +kernel⟩
theorem bd_changes (T : Txt K mg) : Binds K (fdOf K (He.ga K "changes")) ["elder", "newer"] [] := T.F_changes.bindsN fun _ _ _ _ _ _ us hl => match us, hl with | [_, _], _ => rfl
theorem ok_changes (T : Txt K mg) (nd : NDX base) : FnX false P w K mg base (L2.CX P w) 4 (He.ga K "changes") (fdOf K (He.ga K "changes")) ["elder", "newer"] (sp_changes K) := by
  refine okW T.F_changes sc_changes len_changes (fun cdv A outer s H vs Q E hgu0 hr h tk pw => ⟨t_changes K (WT E), ?_, pure_changes vs H Q E h⟩)
  exact (pss_cons (ps_expr (pe_callW (ok_expect T nd) (fun z => nomatch z) hr rfl T.g_expect T.F_expect.kp (bd_expect T) .nil (fun σ => passAt tk σ) (pa_cons pe_int (pa_cons (pe_callX (ok_are_lists_by_name T nd) (fun z => nomatch z) hr rfl T.g_are_lists_by_name T.F_are_lists_by_name.kp (bd_are_lists_by_name T) .nil pass0 (pa_cons (pv 0) pa_nil)) pa_nil))))
      (pss_cons (ps_expr (pe_callW (ok_expect T nd) (fun z => nomatch z) hr rfl T.g_expect T.F_expect.kp (bd_expect T) .nil (fun σ => passAt tk σ) (pa_cons pe_int (pa_cons (pe_callX (ok_are_lists_by_name T nd) (fun z => nomatch z) hr rfl T.g_are_lists_by_name T.F_are_lists_by_name.kp (bd_are_lists_by_name T) .nil pass0 (pa_cons (pv 1) pa_nil)) pa_nil))))
      (pss_cons (ps_set (i := 2) sc_changes.nd rfl (by first | exact Or.inl rfl | exact Or.inr rfl) (pe_lst pa_nil))
      (pss_cons (ps_for pw rfl (pi_list (pe_w (t := fun w => tCB (rSortMS w) (tCons (tOp (rOrS w) (tCB (rSetD w) (tCons (tVar 0) tNil)) (tCB (rSetD w) (tCons (tVar 1) tNil))) tNil)) (pe_callB (cr_sortMS rfl) (by rfl) T.b_sorted (by decide +kernel) (pa_cons (pe_op (op_orS (Nat.lt_of_succ_lt hr.u1)) (pe_callTy (cr_setD rfl) (by rfl) T.b_set (by decide +kernel) (pa_cons (pv 0) pa_nil)) (pe_callTy (cr_setD rfl) (by rfl) T.b_set (by decide +kernel) (pa_cons (pv 1) pa_nil))) pa_nil)))) (pg_name (i := 3) sc_changes.nd rfl (by first | exact Or.inl rfl | exact Or.inr rfl)) (pss_one (ps_if (pt_cmpR (uo_notinU hr.u65) (pv 3) (pv 1) (by rfl)) (pss_one (ps_expr (pe_bm PySem.F.plainAttrs_list PySem.F.slot_list_append PySem.F.type_list_append mt_append (pv 2) (pa_cons (pe_tup (pa_cons pe_str (pa_cons (pv 3) pa_nil))) pa_nil)))) (pss_one (ps_if (PW.pt (pw_or (pt_cmpR (uo_notinU hr.u65) (pv 3) (pv 0) (by rfl)) (pw_or1 (pt_cmpR (uo_ne hr.units) (pe_ix (ix_dk hr.u1) (pv 0) (pv 3) (fun _ _ => rfl)) (pe_ix (ix_dk hr.u1) (pv 1) (pv 3) (fun _ _ => rfl)) (nomark _))))) (pss_one (ps_expr (pe_bm PySem.F.plainAttrs_list PySem.F.slot_list_append PySem.F.type_list_append mt_append (pv 2) (pa_cons (pe_tup (pa_cons pe_str (pa_cons (pv 3) (pa_cons (pe_callTy cr_list (by rfl) T.b_list (by decide +kernel) (pa_cons (pe_ix (ix_dk hr.u1) (pv 1) (pv 3) (fun _ _ => rfl)) pa_nil)) pa_nil)))) pa_nil)))) pss_nil)))))
      (pss_one (ps_ret (pv 2)))))))
theorem sc_l_alike : FnScope ["_law_found", "_law_due"] ["_law_found", "_law_due"] (defScope s_l_alike) := ⟨rfl, rfl, rfl, by decide +kernel, rfl, by decide +kernel, by decide +kernel⟩
theorem bd_l_alike (T : Txt K mg) : Binds K (fdOf K (He.ga K "_law_alike")) ["_law_found", "_law_due"] [] := T.F_l_alike.bindsN fun _ _ _ _ _ _ us hl => match us, hl with | [_, _], _ => rfl
theorem ok_l_alike (T : Txt K mg) (nd : NDX base) : FnX true P w K mg base CX0 1 (He.ga K "_law_alike") (fdOf K (He.ga K "_law_alike")) ["_law_found", "_law_due"] (sp_l_alike K) := by
  refine okX T.F_l_alike sc_l_alike len_l_alike (fun cdv A outer s H vs Q E hgu0 hr h => ⟨t_l_alike K, PSs.nox ?_, pure_l_alike vs H Q E h⟩)
  have hgu : (A.deeper (envOfC "_law_alike" (defScope s_l_alike) s.heap.objs.size (He.ga K "_law_alike") cdv)).guards = some [] := hgu0 rfl
  exact (pss_one (ps_ret (pe_and (pe_cmpR (uo_eqQ (units128 hr)) (pv 0) (pv 1) (nomark _)) (pe_one (pe_cmpR (uo_eqQ (units128 hr)) (pe_callB (cr_reprQ nd.2 hgu hr.units) (by rfl) T.b_repr (by decide +kernel) (pa_cons (pv 0) pa_nil)) (pe_callB (cr_reprQ nd.2 hgu hr.units) (by rfl) T.b_repr (by decide +kernel) (pa_cons (pv 1) pa_nil)) (nomark _))))))
theorem sc_l_right : FnScope ["_law_bag_here", "_law_elder", "_law_newer", "_law_due", "_law_turn", "_law_handed", "_law_kept_text", "_law_found", "_law_told", "_law_sizes", "_law_one", "_law_row"] ["_law_bag_here", "_law_elder", "_law_newer"] (defScope s_l_right) := ⟨rfl, rfl, rfl, by decide +kernel, rfl, by decide +kernel, by decide +kernel⟩
theorem bd_l_right (T : Txt K mg) : Binds K (fdOf K (He.ga K "_law_right")) ["_law_bag_here", "_law_elder", "_law_newer"] [] := T.F_l_right.bindsN fun _ _ _ _ _ _ us hl => match us, hl with | [_, _, _], _ => rfl
theorem ok_l_right (T : Txt K mg) (nd : NDX base) : FnX true P w K mg base CX0 5 (He.ga K "_law_right") (fdOf K (He.ga K "_law_right")) ["_law_bag_here", "_law_elder", "_law_newer"] (sp_l_right K) := by
  refine okX T.F_l_right sc_l_right len_l_right (fun cdv A outer s H vs Q E hgu0 hr h => ⟨t_l_right K, PSs.nox ?_, pure_l_right vs H Q E h⟩)
  have hgu : (A.deeper (envOfC "_law_right" (defScope s_l_right) s.heap.objs.size (He.ga K "_law_right") cdv)).guards = some [] := hgu0 rfl
  exact (pss_cons (ps_set (i := 3) sc_l_right.nd rfl (by first | exact Or.inl rfl | exact Or.inr rfl) (pe_callX (ok_l_rows T nd) (fun z => nomatch z) (hr.mono (by decide)) rfl T.g_l_rows T.F_l_rows.kp (bd_l_rows T) .nil pass0 (pa_cons (pv 1) (pa_cons (pv 2) pa_nil))))
      (pss_cons (ps_for PassesOwn.never rfl (pi_range1 (by rfl) T.b_range (pa_cons pe_int pa_nil)) (pg_name (i := 4) sc_l_right.nd rfl (by first | exact Or.inl rfl | exact Or.inr rfl)) (pss_cons (ps_set (i := 5) sc_l_right.nd rfl (by first | exact Or.inl rfl | exact Or.inr rfl) (pe_lst (pa_cons (pe_callX (ok_l_shuffled T nd) (fun z => nomatch z) (hr.mono (by decide)) rfl T.g_l_shuffled T.F_l_shuffled.kp (bd_l_shuffled T) .nil pass0 (pa_cons (pv 0) (pa_cons (pv 1) pa_nil))) (pa_cons (pe_callX (ok_l_shuffled T nd) (fun z => nomatch z) (hr.mono (by decide)) rfl T.g_l_shuffled T.F_l_shuffled.kp (bd_l_shuffled T) .nil pass0 (pa_cons (pv 0) (pa_cons (pv 2) pa_nil))) pa_nil))))
      (pss_cons (ps_set (i := 6) sc_l_right.nd rfl (by first | exact Or.inl rfl | exact Or.inr rfl) (pe_callB (cr_reprQ nd.2 hgu hr.units) (by rfl) T.b_repr (by decide +kernel) (pa_cons (pv 5) pa_nil)))
      (pss_cons (ps_set (i := 7) sc_l_right.nd rfl (by first | exact Or.inl rfl | exact Or.inr rfl) (pe_callW (ok_changes T nd) (fun z => nomatch z) hr rfl T.g_changes T.F_changes.kp (bd_changes T) .nil (fun _ => pasF) (pa_cons (pe_ix ix_any (pv 5) pe_int (fun _ _ => rfl)) (pa_cons (pe_ix ix_any (pv 5) pe_int (fun _ _ => rfl)) pa_nil))))
      (pss_cons (ps_if (PW.pt (pw_or (pt_not (pt_val (pe_callX (ok_l_alike T nd) (fun _ => hgu) (hr.mono (by decide)) rfl T.g_l_alike T.F_l_alike.kp (bd_l_alike T) .nil pass0 (pa_cons (pv 7) (pa_cons (pv 3) pa_nil))))) (pw_or1 (pt_cmpR (uo_ne hr.units) (pe_callB (cr_reprQ nd.2 hgu hr.units) (by rfl) T.b_repr (by decide +kernel) (pa_cons (pv 5) pa_nil)) (pv 6) (nomark _))))) (pss_one (ps_ret pe_bl)) pss_nil)
      (pss_cons (ps_setLc (i := 8) (own := [("_law_row", 11)]) (g := (gName 11)) (tt := (tTest (tOp (uEq K) (tOp (uIx K) (tVar 11) (tC (.int 0))) (tC (.str "put"))))) rfl sc_l_right.nd rfl rfl (sw_true rfl rfl rfl (by decide +kernel)) (pi_list (pv 7)) (blkOk_by (own := [("_law_row", 11)]) (N := ["_law_bag_here", "_law_elder", "_law_newer", "_law_due", "_law_turn", "_law_handed", "_law_kept_text", "_law_found", "_law_told", "_law_sizes", "_law_one", "_law_row"]) (sc := defScope s_l_right) (by decide +kernel)) (fun _ _ _ _ _ => (pg_name (i := 11) sc_l_right.nd rfl (by first | exact Or.inl rfl | exact Or.inr rfl))) (fun _ _ _ _ _ => (pts_one (pt_cmpR (uo_eq hr.units) (pe_ix ix_any (pv 11) pe_int (fun _ _ => rfl)) pe_str (nomark _)))) (fun _ _ _ _ _ => (pe_ix ix_any (pv 11) pe_int (fun _ _ => rfl))))
      (pss_cons (ps_setLc (i := 9) (own := [("_law_one", 10)]) (g := (gName 10)) (tt := tYes) rfl sc_l_right.nd rfl rfl (sw_true rfl rfl rfl (by decide +kernel)) (pi_list (pv 8)) (blkOk_by (own := [("_law_one", 10)]) (N := ["_law_bag_here", "_law_elder", "_law_newer", "_law_due", "_law_turn", "_law_handed", "_law_kept_text", "_law_found", "_law_told", "_law_sizes", "_law_one", "_law_row"]) (sc := defScope s_l_right) (by decide +kernel)) (fun _ _ _ _ _ => (pg_name (i := 10) sc_l_right.nd rfl (by first | exact Or.inl rfl | exact Or.inr rfl))) (fun _ _ _ _ _ => pts_nil) (fun _ _ _ _ _ => (pe_op uo_add (pe_callB cr_len (by rfl) T.b_len (by decide +kernel) (pa_cons (pv 10) pa_nil)) pe_int)))
      (pss_cons (ps_for PassesOwn.never rfl (pi_list (pv 8)) (pg_name (i := 10) sc_l_right.nd rfl (by first | exact Or.inl rfl | exact Or.inr rfl)) (pss_one (ps_expr (pe_bm PySem.F.plainAttrs_list PySem.F.slot_list_append PySem.F.type_list_append mt_append (pv 10) (pa_cons pe_int pa_nil)))))
      (pss_cons (ps_if (PW.pt (pw_or (pt_cmpR (uo_ne hr.units) (pe_callB (cr_reprQ nd.2 hgu hr.units) (by rfl) T.b_repr (by decide +kernel) (pa_cons (pv 5) pa_nil)) (pv 6) (nomark _)) (pw_or1 (pt_cmpR (uo_ne hr.units) (pe_lc (own := [("_law_one", 10)]) (g := (gName 10)) (tt := tYes) rfl sc_l_right.nd (pi_list (pv 8)) (blkOk_by (own := [("_law_one", 10)]) (N := ["_law_bag_here", "_law_elder", "_law_newer", "_law_due", "_law_turn", "_law_handed", "_law_kept_text", "_law_found", "_law_told", "_law_sizes", "_law_one", "_law_row"]) (sc := defScope s_l_right) (by decide +kernel)) (fun _ _ _ _ _ => (pg_name (i := 10) sc_l_right.nd rfl (by first | exact Or.inl rfl | exact Or.inr rfl))) (fun _ _ _ _ _ => pts_nil) (fun _ _ _ _ _ => (pe_callB cr_len (by rfl) T.b_len (by decide +kernel) (pa_cons (pv 10) pa_nil)))) (pv 9) (nomark _))))) (pss_one (ps_ret pe_bl)) pss_nil)
      (pss_one (ps_expr (pe_bm PySem.F.plainAttrs_list PySem.F.slot_list_append PySem.F.type_list_append mt_append (pv 7) (pa_cons (pe_tup (pa_cons pe_str (pa_cons pe_str pa_nil))) pa_nil)))))))))))))
      (pss_one (ps_ret pe_bl))))
theorem sc_l_list : FnScope ["_law_bag_here", "_law_pick", "_law_k"] ["_law_bag_here"] (defScope s_l_list) := ⟨rfl, rfl, rfl, by decide +kernel, rfl, by decide +kernel, by decide +kernel⟩
theorem bd_l_list (T : Txt K mg) : Binds K (fdOf K (He.ga K "_law_list")) ["_law_bag_here"] [] := T.F_l_list.bindsN fun _ _ _ _ _ _ us hl => match us, hl with | [_], _ => rfl
theorem ok_l_list (T : Txt K mg) (nd : NDX base) : FnX false P w K mg base CX0 2 (He.ga K "_law_list") (fdOf K (He.ga K "_law_list")) ["_law_bag_here"] (sp_l_list K) := by
  refine okX T.F_l_list sc_l_list len_l_list (fun cdv A outer s H vs Q E hgu0 hr h => ⟨t_l_list K, PSs.nox ?_, pure_l_list vs H Q E h⟩)
  exact (pss_cons (ps_set (i := 1) sc_l_list.nd rfl (by first | exact Or.inl rfl | exact Or.inr rfl) (pe_callX (ok_l_take T nd) (fun z => nomatch z) hr rfl T.g_l_take T.F_l_take.kp (bd_l_take T) .nil pass0 (pa_cons (pv 0) (pa_cons pe_int pa_nil))))
      (pss_cons (ps_if (pt_cmpR (uo_eq hr.units) (pv 1) pe_int (nomark _)) (pss_one (ps_ret (pe_lc (own := [("_law_k", 2)]) (g := (gName 2)) (tt := tYes) rfl sc_l_list.nd (pi_range1 (by rfl) T.b_range (pa_cons (pe_callX (ok_l_take T nd) (fun z => nomatch z) hr rfl T.g_l_take T.F_l_take.kp (bd_l_take T) .nil pass0 (pa_cons (pv 0) (pa_cons pe_int pa_nil))) pa_nil)) (blkOk_by (own := [("_law_k", 2)]) (N := ["_law_bag_here", "_law_pick", "_law_k"]) (sc := defScope s_l_list) (by decide +kernel)) (fun _ _ _ _ _ => (pg_name (i := 2) sc_l_list.nd rfl (by first | exact Or.inl rfl | exact Or.inr rfl))) (fun _ _ _ _ _ => pts_nil) (fun _ _ _ _ _ => (pe_ix ix_any (pe_lst (pa_cons pe_int (pa_cons pe_int pa_nil))) (pe_callX (ok_l_take T nd) (fun z => nomatch z) hr rfl T.g_l_take T.F_l_take.kp (bd_l_take T) .nil pass0 (pa_cons (pv 0) (pa_cons pe_int pa_nil))) (fun _ _ => rfl)))))) pss_nil)
      (pss_cons (ps_if (pt_cmpR (uo_eq hr.units) (pv 1) pe_int (nomark _)) (pss_one (ps_ret (pe_lc (own := [("_law_k", 2)]) (g := (gName 2)) (tt := tYes) rfl sc_l_list.nd (pi_range1 (by rfl) T.b_range (pa_cons (pe_callX (ok_l_take T nd) (fun z => nomatch z) hr rfl T.g_l_take T.F_l_take.kp (bd_l_take T) .nil pass0 (pa_cons (pv 0) (pa_cons pe_int pa_nil))) pa_nil)) (blkOk_by (own := [("_law_k", 2)]) (N := ["_law_bag_here", "_law_pick", "_law_k"]) (sc := defScope s_l_list) (by decide +kernel)) (fun _ _ _ _ _ => (pg_name (i := 2) sc_l_list.nd rfl (by first | exact Or.inl rfl | exact Or.inr rfl))) (fun _ _ _ _ _ => pts_nil) (fun _ _ _ _ _ => (pe_op uo_sub (pe_callX (ok_l_take T nd) (fun z => nomatch z) hr rfl T.g_l_take T.F_l_take.kp (bd_l_take T) .nil pass0 (pa_cons (pv 0) (pa_cons (pe_op uo_pow pe_int pe_int) pa_nil))) (pe_op uo_pow pe_int pe_int)))))) pss_nil)
      (pss_one (ps_ret (pe_lc (own := [("_law_k", 2)]) (g := (gName 2)) (tt := tYes) rfl sc_l_list.nd (pi_range1 (by rfl) T.b_range (pa_cons (pe_ix ix_any (pe_lst (pa_cons (pe_callX (ok_l_take T nd) (fun z => nomatch z) hr rfl T.g_l_take T.F_l_take.kp (bd_l_take T) .nil pass0 (pa_cons (pv 0) (pa_cons pe_int pa_nil))) (pa_cons (pe_callX (ok_l_take T nd) (fun z => nomatch z) hr rfl T.g_l_take T.F_l_take.kp (bd_l_take T) .nil pass0 (pa_cons (pv 0) (pa_cons pe_int pa_nil))) pa_nil))) (pe_callX (ok_l_take T nd) (fun z => nomatch z) hr rfl T.g_l_take T.F_l_take.kp (bd_l_take T) .nil pass0 (pa_cons (pv 0) (pa_cons pe_int pa_nil))) (fun _ _ => rfl)) pa_nil)) (blkOk_by (own := [("_law_k", 2)]) (N := ["_law_bag_here", "_law_pick", "_law_k"]) (sc := defScope s_l_list) (by decide +kernel)) (fun _ _ _ _ _ => (pg_name (i := 2) sc_l_list.nd rfl (by first | exact Or.inl rfl | exact Or.inr rfl))) (fun _ _ _ _ _ => pts_nil) (fun _ _ _ _ _ => (pe_callX (ok_l_take T nd) (fun z => nomatch z) hr rfl T.g_l_take T.F_l_take.kp (bd_l_take T) .nil pass0 (pa_cons (pv 0) (pa_cons pe_int pa_nil))))))))))
theorem sc_l_pair_of_dicts : FnScope ["_law_bag_here", "_law_names_here", "_law_elder", "_law_newer", "_law_name", "_law_pick", "_law_value"] ["_law_bag_here", "_law_names_here"] (defScope s_l_pair_of_dicts) := ⟨rfl, rfl, rfl, by decide +kernel, rfl, by decide +kernel, by decide +kernel⟩
theorem bd_l_pair_of_dicts (T : Txt K mg) : Binds K (fdOf K (He.ga K "_law_pair_of_dicts")) ["_law_bag_here", "_law_names_here"] [] := T.F_l_pair_of_dicts.bindsN fun _ _ _ _ _ _ us hl => match us, hl with | [_, _], _ => rfl
theorem ok_l_pair_of_dicts (T : Txt K mg) (nd : NDX base) : FnX false P w K mg base CX0 3 (He.ga K "_law_pair_of_dicts") (fdOf K (He.ga K "_law_pair_of_dicts")) ["_law_bag_here", "_law_names_here"] (sp_l_pair_of_dicts K) := by
  refine okX T.F_l_pair_of_dicts sc_l_pair_of_dicts len_l_pair_of_dicts (fun cdv A outer s H vs Q E hgu0 hr h => ⟨t_l_pair_of_dicts K, PSs.nox ?_, pure_l_pair_of_dicts vs H Q E h⟩)
  exact (pss_cons (ps_set (i := 2) sc_l_pair_of_dicts.nd rfl (by first | exact Or.inl rfl | exact Or.inr rfl) pe_dnewK)
      (pss_cons (ps_set (i := 3) sc_l_pair_of_dicts.nd rfl (by first | exact Or.inl rfl | exact Or.inr rfl) pe_dnewK)
      (pss_cons (ps_for PassesOwn.never rfl (pi_list (pv 1)) (pg_name (i := 4) sc_l_pair_of_dicts.nd rfl (by first | exact Or.inl rfl | exact Or.inr rfl)) (pss_cons (ps_set (i := 5) sc_l_pair_of_dicts.nd rfl (by first | exact Or.inl rfl | exact Or.inr rfl) (pe_callX (ok_l_take T nd) (fun z => nomatch z) (hr.mono (by decide)) rfl T.g_l_take T.F_l_take.kp (bd_l_take T) .nil pass0 (pa_cons (pv 0) (pa_cons pe_int pa_nil))))
      (pss_cons (ps_set (i := 6) sc_l_pair_of_dicts.nd rfl (by first | exact Or.inl rfl | exact Or.inr rfl) (pe_callX (ok_l_list T nd) (fun z => nomatch z) hr rfl T.g_l_list T.F_l_list.kp (bd_l_list T) .nil pass0 (pa_cons (pv 0) pa_nil)))
      (pss_cons (ps_if (pt_cmpR uo_lt (pv 5) pe_int (nomark _)) (pss_one (ps_asg (pv 6) (pg_sub (pv 2) (pv 4) (set_any hr.u1)))) pss_nil)
      (pss_cons (ps_if (pt_cmpR (uo_inU hr.u65) (pv 5) (pe_tup (pa_cons pe_int (pa_cons pe_int pa_nil))) (by rfl)) (pss_one (ps_asg (pe_callTy cr_list (by rfl) T.b_list (by decide +kernel) (pa_cons (pv 6) pa_nil)) (pg_sub (pv 3) (pv 4) (set_any hr.u1)))) pss_nil)
      (pss_cons (ps_if (pt_cmpR (uo_eq hr.units) (pv 5) pe_int (nomark _)) (pss_one (ps_asg (pe_callX (ok_l_list T nd) (fun z => nomatch z) hr rfl T.g_l_list T.F_l_list.kp (bd_l_list T) .nil pass0 (pa_cons (pv 0) pa_nil)) (pg_sub (pv 3) (pv 4) (set_any hr.u1)))) pss_nil)
      (pss_one (ps_if (pt_cmpR (uo_eq hr.units) (pv 5) pe_int (nomark _)) (pss_one (ps_asg (pe_callTy cr_list (by rfl) T.b_list (by decide +kernel) (pa_cons (pv 6) pa_nil)) (pg_sub (pv 3) (pv 4) (set_any hr.u1)))) pss_nil))))))))
      (pss_one (ps_ret (pe_tup (pa_cons (pe_fz (pv 2)) (pa_cons (pe_fz (pv 3)) pa_nil))))))))
theorem sc_law : FnScope ["_law_script", "_law_bag_here", "_law_names_here", "_law_turn", "_law_elder", "_law_newer", "_law_k", "_law_name"] ["_law_script"] (defScope s_law) := ⟨rfl, rfl, rfl, by decide +kernel, rfl, by decide +kernel, by decide +kernel⟩
theorem bd_law (T : Txt K mg) : Binds K (fdOf K (He.ga K "law")) ["_law_script"] [] := T.F_law.bindsN fun _ _ _ _ _ _ us hl => match us, hl with | [_], _ => rfl
theorem ok_law (T : Txt K mg) (nd : NDX base) : FnX true P w K mg base CX0 6 (He.ga K "law") (fdOf K (He.ga K "law")) ["_law_script"] (sp_law K) := by
  refine okX T.F_law sc_law len_law (fun cdv A outer s H vs Q E hgu0 hr h => ⟨t_law K, PSs.nox ?_, pure_law vs H Q E h⟩)
  have hgu : (A.deeper (envOfC "law" (defScope s_law) s.heap.objs.size (He.ga K "law") cdv)).guards = some [] := hgu0 rfl
  exact (pss_cons (ps_set (i := 1) sc_law.nd rfl (by first | exact Or.inl rfl | exact Or.inr rfl) (pe_callX (ok_l_bag T nd) (fun z => nomatch z) (hr.mono (by decide)) rfl T.g_l_bag T.F_l_bag.kp (bd_l_bag T) .nil pass0 (pa_cons (pv 0) pa_nil)))
      (pss_cons (ps_set (i := 2) sc_law.nd rfl (by first | exact Or.inl rfl | exact Or.inr rfl) (pe_callX (ok_l_names T nd) (fun z => nomatch z) (hr.mono (by decide)) rfl T.g_l_names T.F_l_names.kp (bd_l_names T) .nil pass0 (pa_cons (pv 1) (pa_cons pe_int pa_nil))))
      (pss_cons (ps_if (pt_cmpR (uo_eq hr.units) (pe_callX (ok_l_take T nd) (fun z => nomatch z) (hr.mono (by decide)) rfl T.g_l_take T.F_l_take.kp (bd_l_take T) .nil pass0 (pa_cons (pv 1) (pa_cons pe_int pa_nil))) pe_int (nomark _)) (pss_cons (ps_set (i := 2) sc_law.nd rfl (by first | exact Or.inl rfl | exact Or.inr rfl) (pe_callX0 (ok_l_sixty T nd) (fun z => nomatch z) (hr.mono (by decide)) rfl T.g_l_sixty T.F_l_sixty.kp (bd_l_sixty T) .nil pass0))
      (pss_cons (ps_set (i := 4) sc_law.nd rfl (by first | exact Or.inl rfl | exact Or.inr rfl) (pe_fz (pe_callTy (cr_dictP rfl) (by rfl) T.b_dict (by decide +kernel) (pa_cons (pe_lc (own := [("_law_k", 6), ("_law_name", 7)]) (g := (gTup K 2 (gCons (gName 6) (gCons (gName 7) gNil)))) (tt := tYes) rfl sc_law.nd (pi_enum (by rfl) T.b_enumerate (pa_cons (pv 2) pa_nil)) (blkOk_by (own := [("_law_k", 6), ("_law_name", 7)]) (N := ["_law_script", "_law_bag_here", "_law_names_here", "_law_turn", "_law_elder", "_law_newer", "_law_k", "_law_name"]) (sc := defScope s_law) (by decide +kernel)) (fun _ _ _ _ _ => (pg_tup rfl (pgs_cons (pg_name (i := 6) sc_law.nd rfl (by first | exact Or.inl rfl | exact Or.inr rfl)) (pgs_cons (pg_name (i := 7) sc_law.nd rfl (by first | exact Or.inl rfl | exact Or.inr rfl)) pgs_nil)))) (fun _ _ _ _ _ => pts_nil) (fun _ _ _ _ _ => (pe_tup (pa_cons (pv 7) (pa_cons (pe_lst (pa_cons (pv 6) pa_nil)) pa_nil))))) pa_nil))))
      (pss_cons (ps_set (i := 5) sc_law.nd rfl (by first | exact Or.inl rfl | exact Or.inr rfl) (pe_fz (pe_callTy (cr_dictP rfl) (by rfl) T.b_dict (by decide +kernel) (pa_cons (pe_lc (own := [("_law_k", 6), ("_law_name", 7)]) (g := (gTup K 2 (gCons (gName 6) (gCons (gName 7) gNil)))) (tt := tYes) rfl sc_law.nd (pi_enum (by rfl) T.b_enumerate (pa_cons (pv 2) pa_nil)) (blkOk_by (own := [("_law_k", 6), ("_law_name", 7)]) (N := ["_law_script", "_law_bag_here", "_law_names_here", "_law_turn", "_law_elder", "_law_newer", "_law_k", "_law_name"]) (sc := defScope s_law) (by decide +kernel)) (fun _ _ _ _ _ => (pg_tup rfl (pgs_cons (pg_name (i := 6) sc_law.nd rfl (by first | exact Or.inl rfl | exact Or.inr rfl)) (pgs_cons (pg_name (i := 7) sc_law.nd rfl (by first | exact Or.inl rfl | exact Or.inr rfl)) pgs_nil)))) (fun _ _ _ _ _ => pts_nil) (fun _ _ _ _ _ => (pe_tup (pa_cons (pe_op uo_add pe_str (pv 7)) (pa_cons (pe_lst (pa_cons (pv 6) pa_nil)) pa_nil))))) pa_nil))))
      (pss_one (ps_if (PW.pt (pw_or (pt_not (pt_val (pe_callX (ok_l_right T nd) (fun _ => hgu) hr rfl T.g_l_right T.F_l_right.kp (bd_l_right T) .nil pass0 (pa_cons (pv 1) (pa_cons (pv 4) (pa_cons (pv 5) pa_nil)))))) (pw_or1 (pt_not (pt_val (pe_callX (ok_l_right T nd) (fun _ => hgu) hr rfl T.g_l_right T.F_l_right.kp (bd_l_right T) .nil pass0 (pa_cons (pv 1) (pa_cons (pv 5) (pa_cons (pv 4) pa_nil))))))))) (pss_one (ps_ret pe_bl)) pss_nil))))) pss_nil)
      (pss_cons (ps_for PassesOwn.never rfl (pi_range1 (by rfl) T.b_range (pa_cons pe_int pa_nil)) (pg_name (i := 3) sc_law.nd rfl (by first | exact Or.inl rfl | exact Or.inr rfl)) (pss_cons (ps_asg (pe_callX (ok_l_pair_of_dicts T nd) (fun z => nomatch z) (hr.mono (by decide)) rfl T.g_l_pair_of_dicts T.F_l_pair_of_dicts.kp (bd_l_pair_of_dicts T) .nil pass0 (pa_cons (pv 1) (pa_cons (pv 2) pa_nil))) (pg_tup rfl (pgs_cons (pg_name (i := 4) sc_law.nd rfl (by first | exact Or.inl rfl | exact Or.inr rfl)) (pgs_cons (pg_name (i := 5) sc_law.nd rfl (by first | exact Or.inl rfl | exact Or.inr rfl)) pgs_nil))))
      (pss_cons (ps_if (PW.pt (pw_or (pt_not (pt_val (pe_callX (ok_l_right T nd) (fun _ => hgu) hr rfl T.g_l_right T.F_l_right.kp (bd_l_right T) .nil pass0 (pa_cons (pv 1) (pa_cons (pv 4) (pa_cons (pv 5) pa_nil)))))) (pw_or1 (pt_not (pt_val (pe_callX (ok_l_right T nd) (fun _ => hgu) hr rfl T.g_l_right T.F_l_right.kp (bd_l_right T) .nil pass0 (pa_cons (pv 1) (pa_cons (pv 5) (pa_cons (pv 4) pa_nil))))))))) (pss_one (ps_ret pe_bl)) pss_nil)
      (pss_one (ps_if (pt_not (pt_val (pe_callX (ok_l_right T nd) (fun _ => hgu) hr rfl T.g_l_right T.F_l_right.kp (bd_l_right T) .nil pass0 (pa_cons (pv 1) (pa_cons (pv 4) (pa_cons (pv 4) pa_nil)))))) (pss_one (ps_ret pe_bl)) pss_nil)))))
      (pss_one (ps_ret (pe_cmpR (uo_eq hr.units) (pe_callW (ok_changes T nd) (fun z => nomatch z) (hr.mono (by decide)) rfl T.g_changes T.F_changes.kp (bd_changes T) .nil (fun _ => pasF) (pa_cons (pe_fz pe_dnewK) (pa_cons (pe_fz pe_dnewK) pa_nil))) (pe_lst pa_nil) (nomark _))))))))
end
def d_l_bag : He.DefD := ⟨("_law_bag", none), "_law_bag", "_law_bag", defArgs s_l_bag, defBody s_l_bag, defScope s_l_bag, [], []⟩
def d_l_take : He.DefD := ⟨("_law_take", none), "_law_take", "_law_take", defArgs s_l_take, defBody s_l_take, defScope s_l_take, [], []⟩
def d_l_names : He.DefD := ⟨("_law_names", none), "_law_names", "_law_names", defArgs s_l_names, defBody s_l_names, defScope s_l_names, [], []⟩
def d_l_sixty : He.DefD := ⟨("_law_sixty", none), "_law_sixty", "_law_sixty", defArgs s_l_sixty, defBody s_l_sixty, defScope s_l_sixty, [], []⟩
def d_l_rows : He.DefD := ⟨("_law_rows", none), "_law_rows", "_law_rows", defArgs s_l_rows, defBody s_l_rows, defScope s_l_rows, [], []⟩
def d_l_shuffled : He.DefD := ⟨("_law_shuffled", none), "_law_shuffled", "_law_shuffled", defArgs s_l_shuffled, defBody s_l_shuffled, defScope s_l_shuffled, [], []⟩
def d_expect : He.DefD := ⟨("expect", none), "expect", "expect", defArgs s_expect, defBody s_expect, defScope s_expect, [], []⟩
def d_is_name : He.DefD := ⟨("is_name", none), "is_name", "is_name", defArgs s_is_name, defBody s_is_name, defScope s_is_name, [], []⟩
def d_is_whole : He.DefD := ⟨("is_whole", none), "is_whole", "is_whole", defArgs s_is_whole, defBody s_is_whole, defScope s_is_whole, [], []⟩
def d_are_wholes : He.DefD := ⟨("are_wholes", none), "are_wholes", "are_wholes", defArgs s_are_wholes, defBody s_are_wholes, defScope s_are_wholes, [], []⟩
def d_are_lists_by_name : He.DefD := ⟨("are_lists_by_name", none), "are_lists_by_name", "are_lists_by_name", defArgs s_are_lists_by_name, defBody s_are_lists_by_name, defScope s_are_lists_by_name, [], []⟩
def d_changes : He.DefD := ⟨("changes", none), "changes", "changes", defArgs s_changes, defBody s_changes, defScope s_changes, [], []⟩
def d_l_alike : He.DefD := ⟨("_law_alike", none), "_law_alike", "_law_alike", defArgs s_l_alike, defBody s_l_alike, defScope s_l_alike, [], []⟩
def d_l_right : He.DefD := ⟨("_law_right", none), "_law_right", "_law_right", defArgs s_l_right, defBody s_l_right, defScope s_l_right, [], []⟩
def d_l_list : He.DefD := ⟨("_law_list", none), "_law_list", "_law_list", defArgs s_l_list, defBody s_l_list, defScope s_l_list, [], []⟩
def d_l_pair_of_dicts : He.DefD := ⟨("_law_pair_of_dicts", none), "_law_pair_of_dicts", "_law_pair_of_dicts", defArgs s_l_pair_of_dicts, defBody s_l_pair_of_dicts, defScope s_l_pair_of_dicts, [], []⟩
def d_law : He.DefD := ⟨("law", none), "law", "law", defArgs s_law, defBody s_law, defScope s_law, [], []⟩
def d_Wrong___init__ : He.DefD := ⟨("Wrong", some "__init__"), "__init__", "Wrong.__init__", defArgs s_Wrong___init__, defBody s_Wrong___init__, defScope s_Wrong___init__, [], []⟩
def fn : List He.DefD := ([d_l_bag, d_l_take, d_l_names, d_l_sixty, d_l_rows, d_l_shuffled, d_expect, d_is_name, d_is_whole, d_are_wholes, d_are_lists_by_name, d_changes, d_l_alike, d_l_right, d_l_list, d_l_pair_of_dicts, d_law, d_Wrong___init__] : List He.DefD)
def fa : List (PySem.W.Frag → Bool) := ([(fun K => (He.Fa.str "LETTERS" "abcdefghijklmnopqrstuvwxyz").ok K), (fun K => (He.Fa.int "LONGEST" 8).ok K), (fun K => (He.Fa.int "MOST_LISTED" 60).ok K), (fun K => (He.Fa.int "MOST_ROWS" 60).ok K), (fun K => (He.Fa.glo "_law_bag").ok K), (fun K => (He.Fa.glo "_law_take").ok K), (fun K => (He.Fa.glo "_law_names").ok K), (fun K => (He.Fa.glo "_law_sixty").ok K), (fun K => (He.Fa.glo "_law_rows").ok K), (fun K => (He.Fa.glo "_law_shuffled").ok K), (fun K => (He.Fa.glo "expect").ok K), (fun K => (He.Fa.glo "is_name").ok K), (fun K => (He.Fa.glo "is_whole").ok K), (fun K => (He.Fa.glo "are_wholes").ok K), (fun K => (He.Fa.glo "are_lists_by_name").ok K), (fun K => (He.Fa.glo "changes").ok K), (fun K => (He.Fa.glo "_law_alike").ok K), (fun K => (He.Fa.glo "_law_right").ok K), (fun K => (He.Fa.glo "_law_list").ok K), (fun K => (He.Fa.glo "_law_pair_of_dicts").ok K), (fun K => (He.Fa.glo "law").ok K), (fun K => (He.Fa.glo "Wrong").ok K), (fun K => (He.Fa.glo "StoreError").ok K), (fun K => chB K "Wrong" (tlB "ValueError") "ValueError.__new__"), (fun K => chF K "Wrong"), (fun K => chC K "Wrong"), (fun K => chN K "Wrong" "at"), (fun K => chI K "StoreError" "ValueError.__init__"), (fun K => (He.Fa.free "abs").ok K), (fun K => (He.Fa.free "len").ok K)] : List (PySem.W.Frag → Bool)) ++ ([(fun K => (He.Fa.free "range").ok K), (fun K => (He.Fa.free "sorted").ok K), (fun K => (He.Fa.free "list").ok K), (fun K => (He.Fa.free "isinstance").ok K), (fun K => (He.Fa.free "str").ok K), (fun K => (He.Fa.free "int").ok K), (fun K => (He.Fa.free "bool").ok K), (fun K => (He.Fa.free "all").ok K), (fun K => (He.Fa.free "dict").ok K), (fun K => (He.Fa.free "set").ok K), (fun K => (He.Fa.free "repr").ok K), (fun K => (He.Fa.free "enumerate").ok K)] : List (PySem.W.Frag → Bool))
def names : List Str := (["StoreError", "Wrong", "LONGEST", "LETTERS", "is_whole", "is_name", "MOST_ROWS", "MOST_LISTED", "are_wholes", "are_lists_by_name", "expect", "changes", "_law_bag", "_law_take", "_law_alike", "_law_names", "_law_list", "_law_pair_of_dicts", "_law_shuffled", "_law_sixty", "_law_rows", "_law_right"] : List Str)
abbrev R : PySem.W.OpenRow := PySem.W.OpenLaw.row PySem.Challenge.rw_restorechain_k35_changes_told
abbrev hk : PySem.W.Hook := hookF 5 fa fn
def ob (s : PySem.W.SharedT) : He.AlD := obsFG 5 fa fn (HandSHeadRun.getT s)
theorem ob_eq (s : PySem.W.SharedT) : ob s = hk.obs s.abs := obsFG_eq (HandSHeadRun.getT_eq s)
theorem run (w : World) : HandSHeadRun.RunEq R (PySem.W.view R.prog [26]) hk ob 4000 names w := by
  intro os
  kernel_rfl
theorem txt {K : PySem.W.Frag} {h : Heap} {mg : Str → Option Value} (X : K.In h) (G : h.Ns mainGlobals mg) (c : SaysF fa fn K) : Txt K mg where
  F_l_bag := fd_of (c.def_ 0 (d := d_l_bag) rfl)
  F_l_take := fd_of (c.def_ 1 (d := d_l_take) rfl)
  F_l_names := fd_of (c.def_ 2 (d := d_l_names) rfl)
  F_l_sixty := fd_of (c.def_ 3 (d := d_l_sixty) rfl)
  F_l_rows := fd_of (c.def_ 4 (d := d_l_rows) rfl)
  F_l_shuffled := fd_of (c.def_ 5 (d := d_l_shuffled) rfl)
  F_expect := fd_of (c.def_ 6 (d := d_expect) rfl)
  F_is_name := fd_of (c.def_ 7 (d := d_is_name) rfl)
  F_is_whole := fd_of (c.def_ 8 (d := d_is_whole) rfl)
  F_are_wholes := fd_of (c.def_ 9 (d := d_are_wholes) rfl)
  F_are_lists_by_name := fd_of (c.def_ 10 (d := d_are_lists_by_name) rfl)
  F_changes := fd_of (c.def_ 11 (d := d_changes) rfl)
  F_l_alike := fd_of (c.def_ 12 (d := d_l_alike) rfl)
  F_l_right := fd_of (c.def_ 13 (d := d_l_right) rfl)
  F_l_list := fd_of (c.def_ 14 (d := d_l_list) rfl)
  F_l_pair_of_dicts := fd_of (c.def_ 15 (d := d_l_pair_of_dicts) rfl)
  F_law := fd_of (c.def_ 16 (d := d_law) rfl)
  F_Wrong___init__ := fd_of (c.def_ 17 (d := d_Wrong___init__) rfl)
  c_LETTERS := He.str_ok X G (c.fact 0 (f := (fun K => (He.Fa.str "LETTERS" "abcdefghijklmnopqrstuvwxyz").ok K)) rfl)
  c_LONGEST := He.int_ok X G (c.fact 1 (f := (fun K => (He.Fa.int "LONGEST" 8).ok K)) rfl)
  c_MOST_LISTED := He.int_ok X G (c.fact 2 (f := (fun K => (He.Fa.int "MOST_LISTED" 60).ok K)) rfl)
  c_MOST_ROWS := He.int_ok X G (c.fact 3 (f := (fun K => (He.Fa.int "MOST_ROWS" 60).ok K)) rfl)
  g_l_bag := He.glo_ok X G (c.fact 4 (f := (fun K => (He.Fa.glo "_law_bag").ok K)) rfl)
  g_l_take := He.glo_ok X G (c.fact 5 (f := (fun K => (He.Fa.glo "_law_take").ok K)) rfl)
  g_l_names := He.glo_ok X G (c.fact 6 (f := (fun K => (He.Fa.glo "_law_names").ok K)) rfl)
  g_l_sixty := He.glo_ok X G (c.fact 7 (f := (fun K => (He.Fa.glo "_law_sixty").ok K)) rfl)
  g_l_rows := He.glo_ok X G (c.fact 8 (f := (fun K => (He.Fa.glo "_law_rows").ok K)) rfl)
  g_l_shuffled := He.glo_ok X G (c.fact 9 (f := (fun K => (He.Fa.glo "_law_shuffled").ok K)) rfl)
  g_expect := He.glo_ok X G (c.fact 10 (f := (fun K => (He.Fa.glo "expect").ok K)) rfl)
  g_is_name := He.glo_ok X G (c.fact 11 (f := (fun K => (He.Fa.glo "is_name").ok K)) rfl)
  g_is_whole := He.glo_ok X G (c.fact 12 (f := (fun K => (He.Fa.glo "is_whole").ok K)) rfl)
  g_are_wholes := He.glo_ok X G (c.fact 13 (f := (fun K => (He.Fa.glo "are_wholes").ok K)) rfl)
  g_are_lists_by_name := He.glo_ok X G (c.fact 14 (f := (fun K => (He.Fa.glo "are_lists_by_name").ok K)) rfl)
  g_changes := He.glo_ok X G (c.fact 15 (f := (fun K => (He.Fa.glo "changes").ok K)) rfl)
  g_l_alike := He.glo_ok X G (c.fact 16 (f := (fun K => (He.Fa.glo "_law_alike").ok K)) rfl)
  g_l_right := He.glo_ok X G (c.fact 17 (f := (fun K => (He.Fa.glo "_law_right").ok K)) rfl)
  g_l_list := He.glo_ok X G (c.fact 18 (f := (fun K => (He.Fa.glo "_law_list").ok K)) rfl)
  g_l_pair_of_dicts := He.glo_ok X G (c.fact 19 (f := (fun K => (He.Fa.glo "_law_pair_of_dicts").ok K)) rfl)
  g_law := He.glo_ok X G (c.fact 20 (f := (fun K => (He.Fa.glo "law").ok K)) rfl)
  cg_Wrong := He.glo_ok X G (c.fact 21 (f := (fun K => (He.Fa.glo "Wrong").ok K)) rfl)
  cg_StoreError := He.glo_ok X G (c.fact 22 (f := (fun K => (He.Fa.glo "StoreError").ok K)) rfl)
  xb_Wrong := chB_VE (c.fact 23 (f := (fun K => chB K "Wrong" (tlB "ValueError") "ValueError.__new__")) rfl)
  xf_Wrong := chF_ok (c.fact 24 (f := (fun K => chF K "Wrong")) rfl)
  xc_Wrong := chC_ok (c.fact 25 (f := (fun K => chC K "Wrong")) rfl)
  xn_Wrong_at := id (c.fact 26 (f := (fun K => chN K "Wrong" "at")) rfl)
  xi_StoreError := chI_ok (c.fact 27 (f := (fun K => chI K "StoreError" "ValueError.__init__")) rfl)
  b_abs := He.free_ok X G (c.fact 28 (f := (fun K => (He.Fa.free "abs").ok K)) rfl)
  b_len := He.free_ok X G (c.fact 29 (f := (fun K => (He.Fa.free "len").ok K)) rfl)
  b_range := He.free_ok X G (c.fact 30 (f := (fun K => (He.Fa.free "range").ok K)) rfl)
  b_sorted := He.free_ok X G (c.fact 31 (f := (fun K => (He.Fa.free "sorted").ok K)) rfl)
  b_list := He.free_ok X G (c.fact 32 (f := (fun K => (He.Fa.free "list").ok K)) rfl)
  b_isinstance := He.free_ok X G (c.fact 33 (f := (fun K => (He.Fa.free "isinstance").ok K)) rfl)
  b_str := He.free_ok X G (c.fact 34 (f := (fun K => (He.Fa.free "str").ok K)) rfl)
  b_int := He.free_ok X G (c.fact 35 (f := (fun K => (He.Fa.free "int").ok K)) rfl)
  b_bool := He.free_ok X G (c.fact 36 (f := (fun K => (He.Fa.free "bool").ok K)) rfl)
  b_all := He.free_ok X G (c.fact 37 (f := (fun K => (He.Fa.free "all").ok K)) rfl)
  b_dict := He.free_ok X G (c.fact 38 (f := (fun K => (He.Fa.free "dict").ok K)) rfl)
  b_set := He.free_ok X G (c.fact 39 (f := (fun K => (He.Fa.free "set").ok K)) rfl)
  b_repr := He.free_ok X G (c.fact 40 (f := (fun K => (He.Fa.free "repr").ok K)) rfl)
  b_enumerate := He.free_ok X G (c.fact 41 (f := (fun K => (He.Fa.free "enumerate").ok K)) rfl)
end RC
open PySem PySem.W PySem.Calls PyProof.Rows
set_option maxRecDepth 100000 in
set_option maxHeartbeats 0 in
theorem PySem.Challenge.cw_restorechain_k35_changes_told_holds : PySem.Challenge.rw_restorechain_k35_changes_told.Holds := by
  w_on; o_law
  refine HandSHeadRun.head_any (r := OpenLaw.row PySem.Challenge.rw_restorechain_k35_changes_told) (q := view (OpenLaw.row PySem.Challenge.rw_restorechain_k35_changes_told).prog [26]) (H := RC.hk) (ob := RC.ob) (M := 4000) (loose := RC.names)
    (d := HandSHeadRun.topDef (OpenLaw.row PySem.Challenge.rw_restorechain_k35_changes_told).prog 26) (kwd := []) RC.ob_eq (by kernel_rfl) (fun s => by kernel_rfl) RC.run
    (by kernel_rfl) (by kernel_rfl) (by kernel_rfl) (by rfl) (by first | assumption | decide +kernel) (by decide +kernel) ⟨rfl, rfl, rfl, rfl, rfl, by decide +kernel⟩ ?hw ?hc
  case hw => w_witness2
  case hc =>
    refine RC.walk_S (hi := by kernel_rfl) (l := PySem.Challenge.rw_restorechain_k35_changes_told) (n := 63) (k := 6) (x := "_law_script") (CX := fun _ => L2.CX0) rfl (by decide) (by kernel_rfl) ⟨rfl, by decide, by decide⟩ ?F (fun _ _ _ _ _ z => z)
    intro w mg fa h Y G hmg0
    obtain ⟨K, KX, c⟩ := Y
    have hmg : mg ("law" : PySem.Str) = some (.ref fa) := by
      have e : (HandSHeadRun.topDef (OpenLaw.row PySem.Challenge.rw_restorechain_k35_changes_told).prog 26).name = ("law" : PySem.Str) := by kernel_rfl
      rw [← e]
      exact hmg0
    have T := RC.txt KX G c
    have e := hmg.symm.trans T.g_law
    cases e
    exact ⟨K, _, RC.sp_law K, KX, fun s v => L2.FunD.bindsA (ps := ["_law_script"]) T.F_law (fun _ _ _ _ _ _ us hl => match us, hl with | [_], _ => rfl) s [v] rfl,
      RC.law_start K, fun base _ _ nd => RC.ok_law T nd⟩
