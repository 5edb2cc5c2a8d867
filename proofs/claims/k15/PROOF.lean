import PyProof.Rows.All
import Wide.All
import OpenK.AllK
import Wide.FinOn
import KE.KStateDown
import HandS.ForMost
import HandS.More
import HandS.Walk
import HandS.Wide
import HandS.IsInst
import HandS.RaiseMore
import HandS.Style
import HandS.Deep
import HandS.MakeKwOnly
import HandS.WordsExc
import HandS.Defaults
import HandS.Head0
import HandS.Head1
import HandS.Head2
import HandS.HeadEnd
import HandS.HeadHook1
import HandS.HeadHook2
import HandS.Codes
import HandS.WideMore
import KE.KIntText
import PySem.Challenge.RW_restorechain_k15_signs_read_back
set_option Elab.async false
set_option linter.all false
set_option maxRecDepth 100000
set_option maxHeartbeats 4000000
namespace RC
open PySem PySem.Spec PyProof.Rows L2
/-! ### resources -/
abbrev Cell := Addr × HO
def Ext (F F' : Hp) : Prop := ∀ a o, F a = some o → F' a = some o
theorem Ext.refl (F : Hp) : Ext F F := fun _ _ h => h
theorem Ext.trans {F G H : Hp} (a : Ext F G) (b : Ext G H) : Ext F H := fun x o h => b x o (a x o h)
theorem Ext.new {H : Hp} {p : Addr} {o : HO} (h : H p = none) : Ext H (upd H p o) := fun a u e => by
  rw [upd_ne (ne_of_none e h)]
  exact e
theorem Ext.rd {H H' : Hp} {a : Addr} {u : HO} (e : Ext H H') (h : Rd H a u) : Rd H' a u := by
  rcases h with h | ⟨o, h⟩
  · exact Or.inl (e a _ h)
  · exact Or.inr ⟨o, e a _ h⟩
theorem Ext.sqL {K : PySem.W.Frag} {H H' : Hp} {a : Addr} {xs : List V} (e : Ext H H') (h : SqL K H a xs) : SqL K H' a xs := by
  rcases h with h | h
  · exact Or.inl (e.rd h)
  · exact Or.inr h
theorem Ext.sqT {K : PySem.W.Frag} {H H' : Hp} {a : Addr} {xs : List V} (e : Ext H H') (h : SqT K H a xs) : SqT K H' a xs := by
  rcases h with h | h
  · exact Or.inl (e.rd h)
  · exact Or.inr h
mutual
theorem Dp_ext {K : PySem.W.Frag} {H H' : Hp} (e : Ext H H') : ∀ {v : V} {d : PyData}, Dp K H v d → Dp K H' v d
  | _, _, .non => .non
  | _, _, .bl b => .bl b
  | _, _, .int i => .int i
  | _, _, .str x => .str x
  | _, _, .lst h ds => .lst (e.sqL h) (DpAll_ext e ds)
  | _, _, .tup h ds => .tup (e.sqT h) (DpAll_ext e ds)
theorem DpAll_ext {K : PySem.W.Frag} {H H' : Hp} (e : Ext H H') : ∀ {vs : List V} {ds : List PyData}, DpAll K H vs ds → DpAll K H' vs ds
  | _, _, .nil => .nil
  | _, _, .cons h r => .cons (Dp_ext e h) (DpAll_ext e r)
end
structure Res where
  on : Hp → List Cell → Prop
  mono : ∀ F F' l, Ext F F' → on F l → on F' l
/-- the object o stands at p, owned -/
def pt (p : Addr) (o : HO) : Res := ⟨fun _ l => l = [(p, o)], fun _ _ _ _ h => h⟩
/-- the object o stands at p for ever -/
def fz (p : Addr) (o : HO) : Res := ⟨fun F l => l = [] ∧ F p = some o, fun _ _ _ e h => ⟨h.1, e _ _ h.2⟩⟩
/-- v is the data d for ever -/
def dt (K : PySem.W.Frag) (v : V) (d : PyData) : Res := ⟨fun F l => l = [] ∧ Dp K F v d, fun _ _ _ e h => ⟨h.1, Dp_ext e h.2⟩⟩
def sp2 (R S : Res) : Res := ⟨fun F l => ∃ l1 l2, l = l1 ++ l2 ∧ R.on F l1 ∧ S.on F l2, fun _ _ _ e ⟨l1, l2, h, a, b⟩ => ⟨l1, l2, h, R.mono _ _ _ e a, S.mono _ _ _ e b⟩⟩
def exi {α : Type} (R : α → Res) : Res := ⟨fun F l => ∃ x, (R x).on F l, fun _ _ _ e ⟨x, h⟩ => ⟨x, (R x).mono _ _ _ e h⟩⟩
def prp (φ : Prop) (R : Res) : Res := ⟨fun F l => φ ∧ R.on F l, fun _ _ _ e h => ⟨h.1, R.mono _ _ _ e h.2⟩⟩
def Sat (F : Hp) : List Res → List Cell → Prop
  | [], l => l = []
  | R :: Rs, l => ∃ l1 l2, l = l1 ++ l2 ∧ R.on F l1 ∧ Sat F Rs l2
theorem Sat.mono {F F' : Hp} (e : Ext F F') : ∀ {Rs : List Res} {l : List Cell}, Sat F Rs l → Sat F' Rs l
  | [], _, h => h
  | R :: _, _, ⟨l1, l2, h, a, b⟩ => ⟨l1, l2, h, R.mono _ _ _ e a, Sat.mono e b⟩
theorem Sat.perm {F : Hp} {Rs Rs' : List Res} (p : Rs.Perm Rs') : ∀ {l : List Cell}, Sat F Rs l → ∃ l', l.Perm l' ∧ Sat F Rs' l' := by
  induction p with
  | nil => exact fun h => ⟨_, .refl _, h⟩
  | cons R _ ih =>
    rintro l ⟨l1, l2, rfl, a, b⟩
    obtain ⟨l3, q, c⟩ := ih b
    exact ⟨l1 ++ l3, .append_left _ q, l1, l3, rfl, a, c⟩
  | swap R S Rs =>
    rintro l ⟨l1, l2, rfl, a, l3, l4, rfl, b, c⟩
    refine ⟨l3 ++ (l1 ++ l4), ?_, l3, l1 ++ l4, rfl, b, l1, l4, rfl, a, c⟩
    rw [← List.append_assoc, ← List.append_assoc]
    exact List.Perm.append_right _ List.perm_append_comm
  | trans _ _ ih1 ih2 =>
    intro l h
    obtain ⟨l1, p1, h1⟩ := ih1 h
    obtain ⟨l2, p2, h2⟩ := ih2 h1
    exact ⟨l2, p1.trans p2, h2⟩
structure MemC (F : Hp) (L : List Cell) (H : Hp) : Prop where
  ex : Ext F H
  own : ∀ c ∈ L, H c.1 = some c.2 ∧ F c.1 = none
  nd : (L.map (·.1)).Nodup
theorem MemC.perm {F : Hp} {L L' : List Cell} {H : Hp} (h : MemC F L H) (p : L.Perm L') : MemC F L' H :=
  ⟨h.ex, fun c hc => h.own c (p.mem_iff.mpr hc), (p.map _).nodup_iff.mp h.nd⟩
/-- THE STATE: the resources hold, apart from one another -/
def M (Rs : List Res) (H : Hp) : Prop := ∃ F L, Sat F Rs L ∧ MemC F L H
section
variable {Rs Rs' : List Res} {R S : Res} {H : Hp} {p : Addr} {o o' : HO}
theorem M.perm (h : M Rs H) (q : Rs.Perm Rs') : M Rs' H := by
  obtain ⟨F, L, a, b⟩ := h
  obtain ⟨L', q', a'⟩ := a.perm q
  exact ⟨F, L', a', b.perm q'⟩
theorem M.nil : M [] H := ⟨fun _ => none, [], rfl, ⟨(fun _ _ h => nomatch h), (fun _ h => nomatch h), List.nodup_nil⟩⟩
theorem M.tl (h : M (R :: Rs) H) : M Rs H := by
  obtain ⟨F, L, ⟨l1, l2, rfl, a, b⟩, m⟩ := h
  refine ⟨F, l2, b, m.ex, fun c hc => m.own c (List.mem_append_right _ hc), ?_⟩
  have := m.nd
  rw [List.map_append] at this
  exact (List.nodup_append.mp this).2.1
theorem perm_at : ∀ {Rs : List Res} (i : Nat) {R : Res}, Rs[i]? = some R → Rs.Perm (R :: Rs.eraseIdx i)
  | [], i, R, h => by simp at h
  | S :: Rs, 0, R, h => by
    have e : S = R := Option.some.inj h
    subst e
    exact .refl _
  | S :: Rs, i + 1, R, h => by
    have ih := perm_at (Rs := Rs) i (R := R) (by simpa using h)
    exact (List.Perm.cons S ih).trans (List.Perm.swap R S _)
/-- the i-th resource comes first -/
theorem M.at (h : M Rs H) (i : Nat) (e : Rs[i]? = some R) : M (R :: Rs.eraseIdx i) H := h.perm (perm_at i e)
theorem M.hd (h : M (pt p o :: Rs) H) : H p = some o := by
  obtain ⟨F, L, ⟨l1, l2, rfl, rfl, b⟩, m⟩ := h
  exact (m.own (p, o) (by simp)).1
theorem M.hdF (h : M (fz p o :: Rs) H) : H p = some o := by
  obtain ⟨F, L, ⟨l1, l2, rfl, ⟨_, e⟩, b⟩, m⟩ := h
  exact m.ex _ _ e
theorem M.hdD {K : PySem.W.Frag} {v : V} {d : PyData} (h : M (dt K v d :: Rs) H) : Dp K H v d := by
  obtain ⟨F, L, ⟨l1, l2, rfl, ⟨_, e⟩, b⟩, m⟩ := h
  exact Dp_ext m.ex e
theorem M.got (h : M Rs H) (i : Nat) (e : Rs[i]? = some (pt p o)) : H p = some o := (h.at i e).hd
theorem M.gotF (h : M Rs H) (i : Nat) (e : Rs[i]? = some (fz p o)) : H p = some o := (h.at i e).hdF
theorem M.gotD {K : PySem.W.Frag} {v : V} {d : PyData} (h : M Rs H) (i : Nat) (e : Rs[i]? = some (dt K v d)) : Dp K H v d := (h.at i e).hdD
/-- a new object -/
theorem M.new (h : M Rs H) (hp : H p = none) : M (pt p o :: Rs) (upd H p o) := by
  obtain ⟨F, L, a, m⟩ := h
  have fp : F p = none := by
    cases q : F p with
    | none => rfl
    | some u => rw [m.ex _ _ q] at hp; cases hp
  refine ⟨F, (p, o) :: L, ⟨[(p, o)], L, rfl, rfl, a⟩, ⟨m.ex.trans (Ext.new hp), fun c hc => ?_, ?_⟩⟩
  · rcases List.mem_cons.mp hc with rfl | hc
    · exact ⟨upd_same, fp⟩
    · have q := m.own c hc
      refine ⟨?_, q.2⟩
      rw [upd_ne (ne_of_none q.1 hp)]
      exact q.1
  · rw [List.map_cons, List.nodup_cons]
    refine ⟨fun hm => ?_, m.nd⟩
    obtain ⟨c, hc, e⟩ := List.mem_map.mp hm
    have q := (m.own c hc).1
    rw [e, hp] at q
    cases q
/-- an owned object is changed -/
theorem M.put (h : M (pt p o :: Rs) H) : M (pt p o' :: Rs) (upd H p o') := by
  obtain ⟨F, L, ⟨l1, l2, rfl, rfl, b⟩, m⟩ := h
  have fp : F p = none := (m.own (p, o) (by simp)).2
  have nd := m.nd
  rw [List.map_append] at nd
  have nd2 : ((p :: l2.map (·.1)) : List Addr).Nodup := nd
  have np := (List.nodup_cons.mp nd2).1
  refine ⟨F, (p, o') :: l2, ⟨[(p, o')], l2, rfl, rfl, b⟩, ⟨fun a u e => ?_, fun c hc => ?_, nd2⟩⟩
  · have : a ≠ p := fun z => by rw [z, fp] at e; cases e
    rw [upd_ne this]
    exact m.ex _ _ e
  · rcases List.mem_cons.mp hc with rfl | hc
    · exact ⟨upd_same, fp⟩
    · have q := m.own c (List.mem_append_right _ hc)
      refine ⟨?_, q.2⟩
      have : c.1 ≠ p := fun z => np (List.mem_map.mpr ⟨c, hc, z⟩)
      rw [upd_ne this]
      exact q.1
/-- an owned object stays as it is from now on -/
theorem M.fix (h : M (pt p o :: Rs) H) : M (fz p o :: Rs) H := by
  obtain ⟨F, L, ⟨l1, l2, rfl, rfl, b⟩, m⟩ := h
  have hp := m.own (p, o) (by simp)
  have nd := m.nd
  rw [List.map_append] at nd
  have nd2 : ((p :: l2.map (·.1)) : List Addr).Nodup := nd
  have np := (List.nodup_cons.mp nd2).1
  have ex : Ext F (upd F p o) := Ext.new hp.2
  refine ⟨upd F p o, l2, ⟨[], l2, rfl, ⟨rfl, upd_same⟩, b.mono ex⟩, ⟨fun a u e => ?_, fun c hc => ?_, (List.nodup_cons.mp nd2).2⟩⟩
  · by_cases z : a = p
    · subst z
      rw [upd_same] at e
      cases e
      exact hp.1
    · rw [upd_ne z] at e
      exact m.ex _ _ e
  · have q := m.own c (List.mem_append_right _ hc)
    refine ⟨q.1, ?_⟩
    have : c.1 ≠ p := fun z => np (List.mem_map.mpr ⟨c, hc, z⟩)
    rw [upd_ne this]
    exact q.2
theorem M.dupF (h : M (fz p o :: Rs) H) : M (fz p o :: fz p o :: Rs) H := by
  obtain ⟨F, L, ⟨l1, l2, rfl, ⟨rfl, e⟩, b⟩, m⟩ := h
  exact ⟨F, l2, ⟨[], l2, rfl, ⟨rfl, e⟩, [], l2, rfl, ⟨rfl, e⟩, b⟩, m⟩
theorem M.dupD {K : PySem.W.Frag} {v : V} {d : PyData} (h : M (dt K v d :: Rs) H) : M (dt K v d :: dt K v d :: Rs) H := by
  obtain ⟨F, L, ⟨l1, l2, rfl, ⟨rfl, e⟩, b⟩, m⟩ := h
  exact ⟨F, l2, ⟨[], l2, rfl, ⟨rfl, e⟩, [], l2, rfl, ⟨rfl, e⟩, b⟩, m⟩
theorem M.sp (h : M (sp2 R S :: Rs) H) : M (R :: S :: Rs) H := by
  obtain ⟨F, L, ⟨l1, l2, rfl, ⟨l3, l4, rfl, a, b⟩, c⟩, m⟩ := h
  exact ⟨F, _, ⟨l3, l4 ++ l2, by rw [List.append_assoc], a, l4, l2, rfl, b, c⟩, m⟩
theorem M.sp' (h : M (R :: S :: Rs) H) : M (sp2 R S :: Rs) H := by
  obtain ⟨F, L, ⟨l1, l2, rfl, a, l3, l4, rfl, b, c⟩, m⟩ := h
  exact ⟨F, _, ⟨l1 ++ l3, l4, by rw [List.append_assoc], ⟨l1, l3, rfl, a, b⟩, c⟩, m⟩
theorem M.ex {α : Type} {T : α → Res} (h : M (exi T :: Rs) H) : ∃ x, M (T x :: Rs) H := by
  obtain ⟨F, L, ⟨l1, l2, rfl, ⟨x, a⟩, c⟩, m⟩ := h
  exact ⟨x, F, _, ⟨l1, l2, rfl, a, c⟩, m⟩
theorem M.ex' {α : Type} {T : α → Res} (x : α) (h : M (T x :: Rs) H) : M (exi T :: Rs) H := by
  obtain ⟨F, L, ⟨l1, l2, rfl, a, c⟩, m⟩ := h
  exact ⟨F, _, ⟨l1, l2, rfl, ⟨x, a⟩, c⟩, m⟩
theorem M.pr {φ : Prop} (h : M (prp φ R :: Rs) H) : φ ∧ M (R :: Rs) H := by
  obtain ⟨F, L, ⟨l1, l2, rfl, ⟨x, a⟩, c⟩, m⟩ := h
  exact ⟨x, F, _, ⟨l1, l2, rfl, a, c⟩, m⟩
theorem M.pr' {φ : Prop} (x : φ) (h : M (R :: Rs) H) : M (prp φ R :: Rs) H := by
  obtain ⟨F, L, ⟨l1, l2, rfl, a, c⟩, m⟩ := h
  exact ⟨F, _, ⟨l1, l2, rfl, ⟨x, a⟩, c⟩, m⟩
/-- the i-th, owned, is changed; the places stay -/
theorem perm_set : ∀ {Rs : List Res} (i : Nat) {R S : Res}, Rs[i]? = some R → (S :: Rs.eraseIdx i).Perm (Rs.set i S)
  | [], i, R, S, h => by simp at h
  | T :: Rs, 0, R, S, h => .refl _
  | T :: Rs, i + 1, R, S, h => by
    have ih := perm_set (Rs := Rs) i (R := R) (S := S) (by simpa using h)
    exact (List.Perm.swap T S _).trans (List.Perm.cons T ih)
theorem M.putAt (h : M Rs H) (i : Nat) (e : Rs[i]? = some (pt p o)) : M (Rs.set i (pt p o')) (upd H p o') := ((h.at i e).put (o' := o')).perm (perm_set i e)
theorem M.fixAt (h : M Rs H) (i : Nat) (e : Rs[i]? = some (pt p o)) : M (Rs.set i (fz p o)) H := (h.at i e).fix.perm (perm_set i e)
theorem M.setAt (h : M Rs H) (i : Nat) (e : Rs[i]? = some R) (k : M (R :: Rs.eraseIdx i) H → M (S :: Rs.eraseIdx i) H) : M (Rs.set i S) H := (k (h.at i e)).perm (perm_set i e)
end
end RC

namespace RC
open PySem PySem.Spec PyProof.Rows L2
/-! ### a def's promise: the names may be bound in any order; g: it wants to know that nothing is being shown (repr) around it -/
structure FnX (g : Bool) (P : Program) (w : World) (K : PySem.W.Frag) (mg : Str → Option Value) (base : Heap) (CX : CXT) (k : Nat) (f : Addr) (fd : FuncData) (ps : List Str) (sp : Sp) : Prop where
  lenG : ∀ vs H Q E, sp vs H Q E → vs.length = ps.length
  runG : ∀ (B : Around) (out : List Env) (t : Shared) (H : Hp) (args : Args) (bs : List (Str × Value)) (us : List Value) (vs : List V) (Q : VK) (E : XK), (g = true → B.guards = some []) → Room k B → Env0 P w K mg base B out t H →
    BindsTo t fd args bs → bs.Perm (ps.zip us) → Vals vs us → sp vs H Q E → codeAny (model P w) B (.call (.ref f) args) (CR CX out P w H t Q E) t
theorem zip_names {α β : Type} : ∀ (as : List α) (bs : List β), (as.zip bs).map (·.1) = as.take bs.length
  | [], _ => by simp
  | _ :: _, [] => rfl
  | a :: as, b :: bs => by
    show a :: (as.zip bs).map (·.1) = a :: as.take bs.length
    rw [zip_names as bs]
theorem bindL_perm {kd : Str → Option NameKind} {l l' : List (Str × Value)} (p : l.Perm l') : (l.map (·.1)).Nodup → ∀ m, bindL kd l m = bindL kd l' m := by
  induction p with
  | nil => exact fun _ _ => rfl
  | cons x _ ih =>
    intro nd m
    obtain ⟨n, v⟩ := x
    have nd2 := (List.nodup_cons.mp nd).2
    unfold bindL
    split <;> exact ih nd2 _
  | swap x y l =>
    intro nd m
    obtain ⟨n, v⟩ := x
    obtain ⟨n', v'⟩ := y
    have ne : n' ≠ n := fun e => (List.nodup_cons.mp nd).1 (by rw [e]; exact List.mem_cons_self)
    show bindL kd ((n', v') :: (n, v) :: l) m = bindL kd ((n, v) :: (n', v') :: l) m
    unfold bindL
    unfold bindL
    by_cases h1 : kd n' = some .local <;> by_cases h2 : kd n = some .local <;> simp only [h1, h2, if_true, if_false]
    all_goals try rfl
    congr 1
    funext z
    by_cases e1 : z = n
    · subst e1
      simp [Ne.symm ne]
    · simp [e1]
  | trans p q ih1 ih2 =>
    intro nd m
    rw [ih1 nd m, ih2 ((p.map _).nodup_iff.mp nd) m]
theorem bindC_perm {kd : Str → Option NameKind} {l l' : List (Str × Value)} (p : l.Perm l') : (l.map (·.1)).Nodup → ∀ m, bindC kd l m = bindC kd l' m := by
  induction p with
  | nil => exact fun _ _ => rfl
  | cons x _ ih =>
    intro nd m
    obtain ⟨n, v⟩ := x
    have nd2 := (List.nodup_cons.mp nd).2
    unfold bindC
    split <;> exact ih nd2 _
  | swap x y l =>
    intro nd m
    obtain ⟨n, v⟩ := x
    obtain ⟨n', v'⟩ := y
    have ne : n' ≠ n := fun e => (List.nodup_cons.mp nd).1 (by rw [e]; exact List.mem_cons_self)
    show bindC kd ((n', v') :: (n, v) :: l) m = bindC kd ((n, v) :: (n', v') :: l) m
    unfold bindC
    unfold bindC
    by_cases h1 : kd n' = some .local <;> by_cases h2 : kd n = some .local <;> simp only [h1, h2, if_true, if_false]
    all_goals try rfl
    congr 1
    funext z
    by_cases e1 : z = n
    · subst e1
      simp [Ne.symm ne]
    · simp [e1]
  | trans p q ih1 ih2 =>
    intro nd m
    rw [ih1 nd m, ih2 ((p.map _).nodup_iff.mp nd) m]
section
variable {g : Bool} {P : Program} {w : World} {K : PySem.W.Frag} {mg : Str → Option Value} {base : Heap} {CX : CXT} {k : Nat} {f : Addr} {fd : FuncData} {ps : List Str} {sp : Sp}
theorem FnX.ok (F : FnX false P w K mg base CX k f fd ps sp) : FnOk P w K mg base CX k f fd ps sp :=
  ⟨F.lenG, fun B out t H args us vs Q E hr e b r h => F.runG B out t H args _ us vs Q E (fun z => nomatch z) hr e b (.refl _) r h⟩
theorem FnX.up {g' : Bool} (F : FnX g P w K mg base CX k f fd ps sp) (h : g = true → g' = true) : FnX g' P w K mg base CX k f fd ps sp :=
  ⟨F.lenG, fun B out t H args bs us vs Q E gu hr e b p r hs => F.runG B out t H args bs us vs Q E (fun z => gu (h z)) hr e b p r hs⟩
theorem FnX.mono {j : Nat} (F : FnX g P w K mg base CX j f fd ps sp) (h : j ≤ k) : FnX g P w K mg base CX k f fd ps sp :=
  ⟨F.lenG, fun B out t H args bs us vs Q E gu hr e b p r hs => F.runG B out t H args bs us vs Q E gu (hr.mono h) e b p r hs⟩
theorem okX {x qual : Str} {params : Arguments} {body : List Stmt} {scope : Scope} {dvs : List V} {kws : List (Str × V)} {N : List Str} (D : FunD K x qual params body scope dvs kws f fd) (S : FnScope N ps scope)
    (hlen : ∀ vs H Q E, sp vs H Q E → vs.length = ps.length)
    (hbody : ∀ (cdv : Value) (B : Around) (out : List Env) (t : Shared) (H : Hp) (vs : List V) (Q : VK) (E : XK), (g = true → B.guards = some []) → Room k (B.deeper (envOfC qual scope t.heap.objs.size f cdv)) → sp vs H Q E →
      ∃ tr, PSs (cxOf CX P w K mg base N qual scope f cdv B out t H E) body tr ∧ tr { nx := fun _ H' => Q .non H', rt := Q } (start N vs) H) :
    FnX g P w K mg base CX (k + 1) f fd ps sp := by
  obtain ⟨⟨oc, od, dV, kV, doc, pm, an, cdv, ct, osl, rfl, lk, hcd, _, _⟩, _⟩ := D
  constructor
  · exact hlen
  intro B out t H args bs us vs Q E hg hr env hb hperm rel hsp
  have hin : K.In t.heap := env.mod.kin.keeps fun b o q => (env.bs b o q).1
  have hno : t.heap.NoLimit := env.mod.nolimit.keeps fun b o q => (env.bs b o q).1
  have hll := hlen _ _ _ _ hsp
  have nd : (bs.map (·.1)).Nodup := by
    refine (hperm.map _).nodup_iff.mpr ?_
    rw [zip_names, List.take_of_length_le (by rw [← rel.length, hll]; exact Nat.le_refl _), ← S.pre]
    exact S.nd.sublist (List.take_sublist _ _)
  have hk : ∀ y ∈ bs, scope.names.lookup y.1 = some .local ∨
      (scope.names.lookup y.1 = some .cell ∧ ((cellsFrom (t.heap.objs.size + 1) scope.names []).lookup y.1).isSome = true) := by
    rintro ⟨n, v⟩ hy
    cases S.par n (List.of_mem_zip (hperm.mem_iff.mp hy)).1 with
    | inl q => exact .inl q
    | inr q => exact .inr ⟨q, PySem.W.cellsFrom_some _ _ _ (.inl q)⟩
  refine codeAny_call_function hr.depth (hin _ _ lk) rfl S.co S.gen rfl
    (PySem.W.codeRec_of hin hcd) (hb _ _ _ _ ?_)
  refine wpAny_newFunctionEnv_cells S.kind hk fun ev hev t1 ic => ?_
  subst hev
  rw [bindL_perm hperm nd, bindC_perm hperm nd] at ic
  refine ⟨hno.keeps ic.toInCall.keep, codeAny_func ?_⟩
  obtain ⟨tr, htr, hq⟩ := hbody cdv B out t H vs Q E hg (hr.deeper _) hsp
  have J : Inv (cxOf CX P w K mg base N qual scope f cdv B out t H E) [] (start N vs) H t1 :=
    inv_start S hr.hd env hll rel ic
  refine wpAny_mono (htr.run [] t1 (start N vs) H _ J hq) (fun fl t2 z => ?_) fun _ _ z => z
  cases fl with
  | next =>
    obtain ⟨s2, H2, J2, q2⟩ := z
    exact ⟨V.non, H2, J2.os, J2.bare, J2.base, J2.hok, rfl, q2⟩
  | ret u =>
    obtain ⟨v2, s2, H2, J2, r2, q2⟩ := z
    exact ⟨v2, H2, J2.os, J2.bare, J2.base, J2.hok, r2, q2⟩
  | brk =>
    obtain ⟨_, _, _, q2⟩ := z
    cases q2
  | cont =>
    obtain ⟨_, _, _, q2⟩ := z
    cases q2
end
section
variable {X : Cx} {g : Bool} {CX : CXT} {k n : Nat} {f : Addr} {fd : FuncData} {ps ps' ks : List Str} {sp : Sp} {ds : List Value} {dvs : List V} {E : XK}
theorem runX_fn {pins : List (Addr × Obj)} {σ : L2.St} {H : Hp} {s : Shared} {Q : VK} {us : List Value} {vs : List V} (F : FnX g X.prog X.w X.K X.mg X.base CX k f fd ps sp) (hg : g = true → X.A.guards = some []) (hr : Room k X.A)
    (hb : Binds X.K fd ps ds) (hd : Vals dvs ds) (hx : Passes CX X E) (I : Inv X pins σ H s) (r : Vals vs us) (h : sp (vs ++ dvs) H Q E) :
    wpAny (model X.prog X.w) X.A (call (.ref f) us) (EP X pins σ Q) X.xe s := by
  have rr : Vals (vs ++ dvs) (us ++ ds) := r.append hd
  have ll : (us ++ ds).length = ps.length := rr.length.symm.trans (F.lenG _ _ _ _ h)
  have go := F.runG X.A X.stack s H ⟨us, []⟩ _ (us ++ ds) (vs ++ dvs) Q E hg hr I.env0 (hb s us I.kIn ll) (.refl _) rr h
  refine wpAny_call (codeAny_mono go fun res s' hq => ?_)
  match res, hq with
  | .error e, hq => exact hx pins σ H s e s' I hq
  | .ok (.ret u), hq => exact I.after hq
  | .ok .next, hq => cases hq
  | .ok .brk, hq => cases hq
  | .ok .cont, hq => cases hq
theorem pe_callX {x : Str} {e : Expr} {es : List Expr} {t : TA} {p pos : Pos} (F : FnX g X.prog X.w X.K X.mg X.base CX k f fd ps sp) (hgu : g = true → X.A.guards = some []) (hr : Room k X.A) (hg : Gl X x) (hm : X.mg x = some (.ref f))
    (hk : PySem.W.keepIn X.K (.ref f) = true) (hb : Binds X.K fd ps ds) (hd : Vals dvs ds) (hx : Passes CX X E)
    (ha : PA X (e :: es) t) (hdb : (x == ("__debug__" : Str)) = false := by decide) (he : starEach (e :: es) X.env = (false, eval e X.env) :: starEach es X.env := by rfl)
    (hpl : (backTo pos (starEach es X.env)).any (·.1) = false := by rfl) : PE X (.Call (.Name x p) (e :: es) [] pos) (tCall sp dvs E t) := by
  constructor
  intro pins s σ H Q I h
  refine wpAny_Call_Name_kw (ld_glob I hg hm ?_ hdb)
  have body := thn (ha.run pos pins s σ H _ I h) (Q' := fun us s1 => X.K.In s1.heap ∧ wpAny (model X.prog X.w) X.A (call (.ref f) us) (EP X pins σ Q) X.xe s1)
    fun us s1 ⟨vs, H1, I1, r1, q1⟩ => ⟨I1.kIn, runX_fn F hgu hr hb hd hx I1 r1 q1⟩
  exact PySem.W.callWith_K (h₀ := X.base) I.ok.mod.kin hk body he hpl
/-- f(e, .., k = v, ..): bound as ps' says, turned by π to the parameters' order -/
theorem runX_kw {pins : List (Addr × Obj)} {σ : L2.St} {H : Hp} {s : Shared} {Q : VK} {us ws : List Value} {vs zs : List V} {gU : List Value → List Value → List Value} {gV : List V → List V → List V} (π : {α : Type} → List α → List α)
    (F : FnX g X.prog X.w X.K X.mg X.base CX k f fd ps sp) (hg : g = true → X.A.guards = some []) (hr : Room k X.A) (hb : KBn X.K fd ps' n ks gU gV) (hx : Passes CX X E)
    (h1 : ∀ vs us, Vals vs us → Vals (π vs) (π us)) (h2 : ∀ us : List Value, us.length = ps'.length → (ps'.zip us).Perm (ps.zip (π us)))
    (I : Inv X pins σ H s) (r : Vals vs us) (rz : Vals zs ws) (l1 : vs.length = n) (l2 : zs.length = ks.length) (l3 : (gV vs zs).length = ps'.length) (h : sp (π (gV vs zs)) H Q E) :
    wpAny (model X.prog X.w) X.A (call (.ref f) us (ks.zip ws)) (EP X pins σ Q) X.xe s := by
  have rr := hb.rel r rz
  have go := F.runG X.A X.stack s H ⟨us, ks.zip ws⟩ _ (π (gU us ws)) (π (gV vs zs)) Q E hg hr I.env0 (hb.to s us ws I.kIn (r.length.symm.trans l1) (rz.length.symm.trans l2)) (h2 _ (rr.length.symm.trans l3)) (h1 _ _ rr) h
  refine wpAny_call (codeAny_mono go fun res s' hq => ?_)
  match res, hq with
  | .error e, hq => exact hx pins σ H s e s' I hq
  | .ok (.ret u), hq => exact I.after hq
  | .ok .next, hq => cases hq
  | .ok .brk, hq => cases hq
  | .ok .cont, hq => cases hq
def tCallP (n m l : Nat) (π : {α : Type} → List α → List α) (sp : Sp) (gV : List V → List V → List V) (E : XK) (t tk : TA) : TE := fun σ H Q => t σ H fun vs H1 => tk σ H1 fun zs H2 => vs.length = n ∧ zs.length = m ∧ (gV vs zs).length = l ∧ sp (π (gV vs zs)) H2 Q E
theorem pe_callP {x : Str} {e : Expr} {es : List Expr} {kws : List Keyword} {t tk : TA} {p pos : Pos} {gU : List Value → List Value → List Value} {gV : List V → List V → List V} (π : {α : Type} → List α → List α)
    (F : FnX g X.prog X.w X.K X.mg X.base CX k f fd ps sp) (hgu : g = true → X.A.guards = some []) (hr : Room k X.A) (hg : Gl X x) (hm : X.mg x = some (.ref f))
    (hk : PySem.W.keepIn X.K (.ref f) = true) (hb : KBn X.K fd ps' n ks gU gV) (hx : Passes CX X E) (h1 : ∀ vs us, Vals vs us → Vals (π vs) (π us)) (h2 : ∀ us : List Value, us.length = ps'.length → (ps'.zip us).Perm (ps.zip (π us)))
    (ha : PA X (e :: es) t) (hkw : PK X kws tk) (hall : (backToKw pos (keywordEach kws X.env)).all (·.1.isSome) = true := by rfl) (hks : (backToKw pos (keywordEach kws X.env)).filterMap (·.1) = ks := by rfl)
    (hdb : (x == ("__debug__" : Str)) = false := by decide) (he : starEach (e :: es) X.env = (false, eval e X.env) :: starEach es X.env := by rfl)
    (hpl : ((backTo pos (starEach (e :: es) X.env)).any (·.1) || (backToKw pos (keywordEach kws X.env)).any (·.1.isNone)) = false := by rfl) :
    PE X (.Call (.Name x p) (e :: es) kws pos) (tCallP n ks.length ps'.length π sp gV E t tk) := by
  constructor
  intro pins s σ H Q I h
  refine wpAny_Call_Name_kw (ld_glob I hg hm ?_ hdb)
  refine PySem.W.callWith_KW (h₀ := X.base) I.ok.mod.kin hk hall
    (thn (ha.run pos pins s σ H _ I h) ?_) hpl he
  rintro us s1 ⟨vs, H1, I1, r1, q1⟩
  refine thn (hkw.run pos pins s1 σ H1 _ I1 q1) ?_
  rintro ws s2 ⟨zs, H2, I2, r2, l1, l2, l3, q2⟩
  refine ⟨I2.kIn, ?_⟩
  subst hks
  exact runX_kw π F hgu hr hb hx h1 h2 I2 r1 r2 l1 l2 l3 q2
end
/-- some places of a list -/
def pickL {α : Type} (is : List Nat) (l : List α) : List α := is.filterMap fun i => l[i]?
theorem pickL_vals {vs : List V} {us : List Value} (r : Vals vs us) : ∀ is : List Nat, Vals (pickL is vs) (pickL is us)
  | [] => .nil
  | i :: is => by
    unfold pickL
    cases e : vs[i]? with
    | none =>
      rw [List.filterMap_cons, List.filterMap_cons, e, r.none_of e]
      exact pickL_vals r is
    | some v =>
      obtain ⟨u, hu, ru⟩ := r.get e
      rw [List.filterMap_cons, List.filterMap_cons, e, hu]
      exact .cons ru (pickL_vals r is)
theorem permAt {α : Type} : ∀ {l : List α} (i : Nat) {x : α}, l[i]? = some x → l.Perm (x :: l.eraseIdx i)
  | [], i, x, h => by simp at h
  | y :: l, 0, x, h => by
    have e : y = x := Option.some.inj h
    subst e
    exact .refl _
  | y :: l, i + 1, x, h => (List.Perm.cons y (permAt (l := l) i (x := x) (by simpa using h))).trans (List.Perm.swap x y _)
/-! ### the law's end for such a def -/
theorem law_callG {P : Program} {w : World} {K : PySem.W.Frag} {mg mb : Str → Option Value} {CX : CXT} {k : Nat} {fa a : Addr} {fd : FuncData} {x : Str} {sp : Sp} {s1 : Shared} {vs : List Value} {ns : List Int}
    (KX : K.In s1.heap) (hns : s1.heap.Ns mainGlobals mg) (hb : s1.heap.Ns builtinsNs mb) (hbb : ∀ x : Str, x ≠ "__name__" → mb x = bootBuiltins x) (hlim : s1.heap.NoLimit) (hdig : s1.heap.NoDigits) (hg : s1.gens = #[])
    (ha : s1.heap.get? a = some { cls := .type "list", data := .seq vs.toArray }) (hi : IntsAre vs ns) (hl : ns.length ≤ sizeLine) (hr : Room k callerA)
    (F : ∀ base : Heap, K.In base → base.Ns mainGlobals mg → base.NoDigits → FnX true P w K mg base CX k fa fd [x] sp)
    (hbind : ∀ (s : Shared) (u : Value), BindsTo s fd ⟨[u], []⟩ [(x, u)])
    (hsp : ∀ H : Hp, SqL K H a (ns.map V.int) → sp [.ref a] H (fun v _ => v = .bl true) fun _ _ _ => False)
    (hCX : ∀ H e s', CX [] H s1 (fun _ _ _ => False) e s' → False) :
    codeAny (model P w) callerA (.call (.ref fa) ⟨[.ref a], []⟩) (fun r s' => r = .ok (.ret (.bool true)) ∧ OldK s1.heap s'.heap ∧ s'.os = s1.os ∧ AllBare s'.gens) s1 := by
  have rv := vals_ints hi
  -- the abstract heap: the script alone, locked, unless it is one of the module's own objects
  obtain ⟨H, hS, hok, hA, hK, hO⟩ : ∃ H : Hp, SqL K H a (ns.map V.int) ∧ HOk P w H s1.heap ∧ (∀ b, H b ≠ none → b = a) ∧ (H a ≠ none → K.lookup a = none) ∧
      ∀ b u, H b = some u → ∃ o v, u = .frz o v := by
    cases hk : K.lookup a with
    | some o =>
      have e := KX a o hk
      rw [ha] at e
      cases e
      refine ⟨fun _ => none, .inr ⟨_, vs.toArray, _, hk, rfl, rfl, rfl, ?_, by simpa using rv⟩, ?_, ?_, ?_, ?_⟩
      · rw [List.size_toArray, hi.length]
        exact hl
      · intro b u z
        cases (show (none : Option HO) = some u from z)
      · intro b z
        exact absurd rfl z
      · intro z
        exact absurd rfl z
      · intro b u z
        cases (show (none : Option HO) = some u from z)
    | none =>
      have at1 : upd (fun _ => none) a (.frz { cls := .type "list", data := .seq vs.toArray } (.lst (ns.map V.int))) a = some (HO.frz { cls := .type "list", data := .seq vs.toArray } (.lst (ns.map V.int))) := upd_same
      have at2 : ∀ b u, upd (fun _ => none) a (.frz { cls := .type "list", data := .seq vs.toArray } (.lst (ns.map V.int))) b = some u → b = a ∧ u = HO.frz { cls := .type "list", data := .seq vs.toArray } (.lst (ns.map V.int)) := by
        intro b u z
        by_cases q : b = a
        · subst q
          rw [upd_same] at z
          exact ⟨rfl, (Option.some.inj z).symm⟩
        · rw [upd_ne q] at z
          cases z
      refine ⟨_, .inl (.inr ⟨_, at1⟩), ?_, ?_, fun _ => rfl, ?_⟩
      · intro b u z
        obtain ⟨rfl, rfl⟩ := at2 b u z
        refine ⟨ha, ?_, vs, _, rv, ha⟩
        rw [List.length_map]
        exact hl
      · intro b z
        cases q : upd (fun _ => none) a (.frz { cls := .type "list", data := .seq vs.toArray } (.lst (ns.map V.int))) b with
        | none => exact absurd q z
        | some u => exact (at2 b u q).1
      · intro b u z
        exact ⟨_, _, (at2 b u z).2⟩
  have off : ∀ {b : Addr} {o : Obj} {es : Array DictEntry} {ep : Nat}, s1.heap.get? b = some o → o.data = .dict es ep → H b = none := by
    intro b o es ep e d
    cases q : H b with
    | none => rfl
    | some u =>
      have z : b = a := hA b (by rw [q]; simp)
      subst z
      rw [ha] at e
      cases e
      cases (show Data.seq vs.toArray _ = Data.dict es ep from d)
  have nsH : ∀ {b : Addr} {m : Str → Option Value}, s1.heap.Ns b m → (hidT s1.heap H).Ns b m := by
    rintro b m ⟨o, es, ep, e, d, r⟩
    exact ⟨o, es, ep, hidT_get e (off e d), d, r⟩
  have hKb : K.In (hidT s1.heap H) := by
    intro b o e
    refine hidT_get (KX b o e) ?_
    cases q : H b with
    | none => rfl
    | some u =>
      have z : b = a := hA b (by rw [q]; simp)
      subst z
      rw [hK (by rw [q]; simp)] at e
      cases e
  have hM : Mod K mg (hidT s1.heap H) := by
    obtain ⟨mc, h1, h2⟩ := hlim
    exact ⟨hKb, nsH hns, ⟨mb, nsH hb, hbb⟩, ⟨mc, nsH h1, h2⟩⟩
  have e0 : Env0 P w K mg (hidT s1.heap H) callerA [] s1 H := by
    refine ⟨rfl, hM, fun b o e => of_hidT e, Nat.le_of_eq (hidT_size _ _), trivial, fun b hb => ?_, hok, .of_eq hg⟩
    cases (show b ∈ ([] : List Addr) from hb)
  have go := (F _ hKb (nsH hns) (by obtain ⟨mc, h1, h2⟩ := hdig; exact ⟨mc, nsH h1, h2⟩)).runG callerA [] s1 H ⟨[.ref a], []⟩ _ [.ref a] [.ref a] _ _ (fun _ => rfl) hr e0 (hbind s1 (.ref a)) (.refl _) (.cons rfl .nil) (hsp H hS)
  refine codeAny_mono go fun res s' h => ?_
  match res, h with
  | .error e, h => exact (hCX H e s' h).elim
  | .ok .next, h => cases h
  | .ok .brk, h => cases h
  | .ok .cont, h => cases h
  | .ok (.ret u), h =>
    obtain ⟨v, H', os, bare, un, hok', r', q⟩ := h
    cases (show v = .bl true from q)
    cases (show u = Value.bool true from r')
    refine ⟨rfl, OldK.of_keep fun b o e => ?_, os, bare⟩
    cases q : H b with
    | none =>
      refine un.keep b o e q (fun z => ?_) (by simp)
      cases (show b ∈ ([] : List Addr) from z)
    | some u =>
      obtain ⟨ob, v2, rfl⟩ := hO b u q
      have z2 := un.frzs b ob _ q
      obtain ⟨e1, _⟩ := hok b _ q
      obtain ⟨e2, _⟩ := hok' b _ z2
      rw [e] at e1
      cases e1
      exact e2
theorem walk_G {l : PySem.W.OpenLaw} {n k : Nat} {q : Program} {loose : List Str} {XP : (Str → Option Value) → Heap → Prop} {YP : World → Heap → Prop} {d : DefRec} {CX : World → CXT} {x : Str}
    (hn : l.most = some n) (hn2 : n ≤ sizeLine) (hdf : d.params.defaults = []) (hr : Room k callerA)
    (F : ∀ (w : World) (mg : Str → Option Value) (fa : Addr) (h : Heap), YP w h → h.Ns mainGlobals mg → mg d.name = some (.ref fa) →
      ∃ (K : PySem.W.Frag) (fd : FuncData) (sp : Sp), K.In h ∧ (∀ (s : Shared) (u : Value), BindsTo s fd ⟨[u], []⟩ [(x, u)]) ∧
        (∀ (H : Hp) (a : Addr) (ns : List Int), ns.length ≤ n → SqL K H a (ns.map V.int) → sp [.ref a] H (fun v _ => v = .bl true) fun _ _ _ => False) ∧
        ∀ base : Heap, K.In base → base.Ns mainGlobals mg → base.NoDigits → FnX true l.prog w K mg base (CX w) k fa fd [x] sp)
    (hCX : ∀ (w : World) (H : Hp) (s : Shared) (e : Value) (s' : Shared), CX w [] H s (fun _ _ _ => False) e s' → False) :
    PySem.W.WalkO q loose XP YP l.row.toRowW d [] (fun f vs => PySem.call f vs) := by
  refine Att.attach_call hn hdf ?_
  intro w s0 s1 mg mb fa o pm cd doc a vs ns G Y ho hd hcd hmg hobj hints hlen hgen
  obtain ⟨K, fd, sp, KX, hb, hsp, hF⟩ := F w mg fa _ Y G.T.g hmg
  exact law_callG KX G.T.g G.T.b G.T.builtins G.T.nolimit G.T.nodigits hgen hobj hints
    (Nat.le_trans hlen hn2) hr hF hb (fun H hS => hsp H a ns hlen hS) (fun H e s' => hCX w H s1 e s')
end RC

namespace RC
open PySem PySem.Spec PySem.Calls PySem.NumText PyProof.Rows L2
theorem wp_maxDigits {M : Model} {A : Around} {E : Value → Shared → Prop} {s : Shared} {Q : Nat → Shared → Prop} (hn : s.heap.NoDigits) (h : Q 4300 s) : wpAny M A Builtin.intMaxStrDigits Q E s := by
  obtain ⟨mc, hns, hnone⟩ := hn
  unfold Builtin.intMaxStrDigits
  refine wpAny_bind (wpAny_nsGet hns ?_)
  rw [hnone]
  exact wpAny_pure h
theorem wp_textL {M : Model} {A : Around} {E : Value → Shared → Prop} {s : Shared} {Q : Value → Shared → Prop} {v : Value} {text : List Nat} {n : Int} (hd : s.heap.NoDigits)
    (hs : ¬ (text.takeWhile (· != 0)).length ≤ 640) (hr : (int_private% "readNumeral") 4300 10 (text.takeWhile (· != 0)) = (int_private% "Numeral.value") n)
    (ha : ((text.takeWhile (· != 0)).length == text.length) = true) (h : Q (.int n s.toks) { s with toks := s.toks + 1 }) :
    wpAny M A ((int_private% "intFromText") v text 10) Q E s := by
  obtain ⟨hp, g, d, tk, os⟩ := s
  repeat (any_goals (first
    | assumption
    | (with_reducible refine wpAny_ite_false (decide_eq_false hs) ?_)
    | (with_reducible refine wpAny_ite_true (decide_eq_true ha) ?_)
    | (with_reducible refine wp_maxDigits hd ?_)
    | wp_step))
  all_goals (try rw [hr])
  all_goals (try dsimp only)
  repeat (any_goals (first
    | assumption
    | (with_reducible refine wpAny_ite_true (decide_eq_true ha) ?_)
    | wp_step))
structure HidL (p : Prop) : Prop where
  out : p
theorem meets_textL {x : PySem.Str} {u : Tok} {n : Int} (hl : ¬ (numSeenOf x).length ≤ 640) (hz : x.length ≤ sizeLine) (hn : PySem.intText? x = some n) :
    Meets (Builtin.«int.__new__» ⟨[.type "int", .str x u], []⟩) (fun _ R s => s.heap.NoDigits ∧ R (.ok (.ret (.int n s.toks))) { s with toks := s.toks + 1 }) := by
  intro prog w A R s h
  obtain ⟨hd, h⟩ := h
  refine wpAny_mono (Q := fun fin s' => ∃ v, fin = .done (.ret v) ∧ R (.ok (.ret v)) s') ?_ (fun fin s' h' => by obtain ⟨v, rfl, hv⟩ := h'; exact hv) fun _ _ x => x
  obtain ⟨hp, g, d, tk, os⟩ := s
  have f1 := F.conv_sub_int
  have f2 := F.madeHere_int
  have f3 := PySem.W.KIN.str_int
  have f4 := PySem.W.KIN.str_idx
  have f5 := PySem.W.KIN.str_trunc
  have f6 : typeOf (.str x u) = pure (.type "str") := rfl
  have hr : (int_private% "readNumeral") 4300 10 (numSeenOf x) = (int_private% "Numeral.value") n ∧ ((numSeenOf x).length == (numTextOf x).length) = true := by
    rcases read4300 x hz with ⟨m, h1, h2, h3⟩ | ⟨h1, _⟩
    · rw [hn] at h1
      injection h1 with h1
      subst h1
      exact ⟨h3, h2⟩
    · rw [hn] at h1
      cases h1
  have hk := HidL.mk (And.intro hl hr)
  have hh := HidL.mk hd
  clear hl hr hn hz hd
  repeat (any_goals (first
    | assumption
    | ((with_reducible show wpAny _ _ ((int_private% "intFromText") _ _ _) _ _ _); refine wp_textL hh.out hk.out.1 hk.out.2.1 hk.out.2.2 ?_)
    | wp_step))
  all_goals first | exact ⟨_, rfl, h⟩ | skip
/-- int(text), of plain signs -/
def rIntT : List V → Hp → VK → Prop := fun xs H Q => ∃ a n, xs = [.str a] ∧ PySem.intText? a = some n ∧ a.cps.all (· < 128) = true ∧ a.length ≤ sizeLine ∧ Q (.int n) H
theorem cr_intT {X : Cx} (nd : X.base.NoDigits) : CallR X (.type "int") rIntT := by
  intro pins s σ H xs us Q I rs h
  obtain ⟨a, n, rfl, hn, ha, hz, h⟩ := h
  cases rs with
  | cons r1 rs =>
    cases rs
    obtain ⟨t, rfl⟩ := r1
    by_cases hl : a.length ≤ 640
    · exact PySem.W.KIN.call_text hn hl ⟨.int n, H, I.tok _, ⟨_, rfl⟩, h⟩
    · have e : numTextOf a = a.cps.toList := if_pos ha
      have hs : ¬ (numSeenOf a).length ≤ 640 := by
        rcases read4300 a hz with ⟨m, h1, h2, h3⟩ | ⟨h1, _⟩
        · have z := eq_of_beq h2
          rw [z, e, Array.length_toList]
          exact hl
        · rw [hn] at h1
          cases h1
      exact call_int_1 (meets_textL hs hz hn) ⟨nd.keeps fun b o q => (I.env0.bs b o q).1, rfl, ⟨.int n, H, I.tok _, ⟨_, rfl⟩, h⟩⟩
/-- a text of one sign, times a number -/
def rRepS : R2 := fun x y H Q => ∃ (c : Nat) (n : Int), x = .str (SX.S [c]) ∧ y = .int n ∧ 1 ≤ n ∧ n ≤ 100000 ∧ Q (.str (SX.S (List.replicate n.toNat c))) H
theorem rep_one (c : Nat) : ∀ (k : Nat) (acc : Array Nat), (List.replicate k #[c]).foldl (· ++ ·) acc = acc ++ (List.replicate k c).toArray
  | 0, acc => by simp
  | k + 1, acc => by
    rw [List.replicate_succ, List.foldl_cons, rep_one c k, List.replicate_succ]
    refine Array.toList_inj.mp ?_
    simp only [Array.toList_append, List.toList_toArray, List.append_assoc]
    rfl
theorem op_repS {X : Cx} : OpR X (binaryOp .Mult) rRepS := by
  intro pins s σ H x y v u Q I rx ry h
  obtain ⟨c, n, rfl, rfl, h1, h2, q⟩ := h
  obtain ⟨t, rfl⟩ := rx
  obtain ⟨t2, rfl⟩ := ry
  have hl : (SX.S [c]).length = 1 := SX.S_len [c]
  refine PySem.P.mul_str (by rw [decide_eq_false (by omega), decide_eq_false (by omega)]; rfl) (fun _ _ => ?_) (fun _ _ => ?_) ?_
  · rw [hl]
    have : (1 : Int) ≤ (2 ^ 63 - 1) / n := (Int.le_ediv_iff_mul_le (by omega)).mpr (by omega)
    omega
  · rw [hl]
    unfold Builtin.Str.tooLong
    rw [decide_eq_false]
    have := sizeLine_eq
    omega
  · rw [if_neg (by omega)]
    by_cases e : n = 1
    · subst e
      rw [if_pos (by rfl)]
      exact ⟨.str _, H, I, ⟨_, rfl⟩, q⟩
    · rw [if_neg (by rw [hl]; simp [e])]
      have e2 : (⟨(List.replicate n.toNat (SX.S [c]).cps).foldl (· ++ ·) #[]⟩ : Str) = SX.S (List.replicate n.toNat c) := by
        show (⟨(List.replicate n.toNat #[c]).foldl (· ++ ·) #[]⟩ : Str) = _
        rw [rep_one]
        simp
      rw [e2]
      refine ⟨?_, ⟨.str _, H, I.tok _, ⟨_, rfl⟩, q⟩⟩
      rw [SX.S_len, List.length_replicate]
      have := sizeLine_eq
      omega
end RC

namespace RC
open PySem PySem.Spec PyProof.Rows L2
/-! ### rules for any kinds of operands -/
section
variable {X : Cx}
/-- two lists, each of any standing -/
def rCatS (K : PySem.W.Frag) : R2 := fun x y H Q => ∃ l b xs zs, x = .ref l ∧ y = .ref b ∧ SqL K H l xs ∧ SqL K H b zs ∧ xs.length + zs.length ≤ sizeLine ∧ ∀ p, H p = none → Q (.ref p) (upd H p (.lst (xs ++ zs)))
theorem op_catS : OpR X (binaryOp .Add) (rCatS X.K) := by
  intro pins s σ H x y v u Q I rx ry h
  obtain ⟨l, b, xs, zs, rfl, rfl, hH, hB, hz, q⟩ := h
  cases rx
  cases ry
  obtain ⟨its, r, ⟨⟨cls, dd, data, sl⟩, n, ho, hc, _, hd⟩, _⟩ := I.list hH
  obtain ⟨its2, r2, ⟨⟨cls2, dd2, data2, sl2⟩, n2, ho2, hc2, _, hd2⟩, _⟩ := I.list hB
  simp only at hc hd hc2 hd2
  subst hc hd hc2 hd2
  have ea : its.toArray ++ its2.toArray = (its ++ its2).toArray := by simp
  have l1 := r.length
  have l2 := r2.length
  refine concat_meets ⟨_, ho, rfl⟩ ⟨_, ho2, rfl⟩ noFill_list_add seq_list_add PySem.F.slot_list_add PySem.F.entry_list_add (PySem.F.args_list_add_2 _ _) (list_addW l b its.toArray its2.toArray n n2 dd dd2 sl sl2 (by rw [List.size_toArray, List.size_toArray]; omega)) ⟨ho, ho2, ?_⟩
  rw [ea]
  exact ⟨.ref _, _, I.lnew (t' := s.toks) (r.append r2) (by rw [List.length_append]; omega), rfl, q _ I.fresh⟩
def uAdd (K : PySem.W.Frag) : R2 := fun x y H Q => rI0 (fun i j => .int (i + j)) x y H Q ∨ (∃ i j, x = .str i ∧ y = .str j ∧ i.length + j.length ≤ sizeLine ∧ Q (.str (i ++ j)) H) ∨ rCatS K x y H Q ∨ rCatT K x y H Q
theorem uo_add : OpR X (binaryOp .Add) (uAdd X.K) := op_add.or (op_add_str.or (op_catS.or op_catT))
def uSub : R2 := rI0 fun i j => .int (i - j)
theorem uo_sub : OpR X (binaryOp .Sub) uSub := op_sub
def uMul : R2 := fun x y H Q => rI CMul (fun i j => .int (i * j)) x y H Q ∨ rI CMulW (fun i j => .int (i * j)) x y H Q ∨ rRep x y H Q ∨ rRepS x y H Q
theorem uo_mul : OpR X (binaryOp .Mult) uMul := op_mul.or (op_mulW.or (op_rep.or op_repS))
def uMod : R2 := rI (fun _ j => 0 < j) fun i j => .int (i % j)
theorem uo_mod : OpR X (binaryOp .Mod) uMod := op_mod
def uDiv : R2 := rI CDivW fun i j => .int (i / j)
theorem uo_div : OpR X (binaryOp .FloorDiv) uDiv := op_fdivW
def uPow : R2 := rI CPow fun i j => .int (i ^ j.toNat)
theorem uo_pow : OpR X (binaryOp .Pow) uPow := op_pow
/-- op= -/
def iAdd : R2 := fun x y H Q => rI0 (fun i j => .int (i + j)) x y H Q ∨ rExt2 x y H Q
theorem io_add : OpR X (inplaceOp .Add) iAdd := iop_add.or iop_ext
def iSub : R2 := rI0 fun i j => .int (i - j)
theorem io_sub : OpR X (inplaceOp .Sub) iSub := iop_sub
def iMul : R2 := rI CMul fun i j => .int (i * j)
theorem io_mul : OpR X (inplaceOp .Mult) iMul := iop_mul
def iDiv : R2 := rI CDiv fun i j => .int (i / j)
theorem io_div : OpR X (inplaceOp .FloorDiv) iDiv := iop_fdiv
/-- == and != of scalars, of data -/
def uEq (K : PySem.W.Frag) : R2 := fun x y H Q => rEq x y H Q ∨ rEqD K x y H Q
theorem uo_eq (hu : X.A.units + 64 < cLine) : OpR X (compareOp .Eq) (uEq X.K) := op_eq.or (op_eqD hu)
def uNe (K : PySem.W.Frag) : R2 := fun x y H Q => rNe x y H Q ∨ rNeD K x y H Q
theorem uo_ne (hu : X.A.units + 64 < cLine) : OpR X (compareOp .NotEq) (uNe X.K) := op_ne.or (op_neD hu)
def uLt : R2 := rI0 fun i j => .bl (decide (i < j))
def uLe : R2 := rI0 fun i j => .bl (decide (i ≤ j))
def uGt : R2 := rI0 fun i j => .bl (decide (j < i))
def uGe : R2 := rI0 fun i j => .bl (decide (j ≤ i))
theorem uo_lt : OpR X (compareOp .Lt) uLt := op_lt
theorem uo_le : OpR X (compareOp .LtE) uLe := op_le
theorem uo_gt : OpR X (compareOp .Gt) uGt := op_gt
theorem uo_ge : OpR X (compareOp .GtE) uGe := op_ge
/-- o[i] by values, o[i] = v by values: lists, dicts -/
def gIx (K : PySem.W.Frag) : V → V → Hp → VK → Prop := fun o i H Q => (∃ (p : Addr) (xs : List V) (n : Int) (v : V), o = .ref p ∧ i = .int n ∧ SqL K H p xs ∧ 0 ≤ n ∧ xs[n.toNat]? = some v ∧ Q v H) ∨ ∃ p v, o = .ref p ∧ DGet H p i (some v) ∧ Q v H
theorem get_any (hu : X.A.units + 1 < cLine) : PGet X (gIx X.K) := by
  intro pins s σ H o i ov iv Q I r1 r2 h
  rcases h with ⟨p, xs, n, v, rfl, rfl, hs, h0, hx, q⟩ | ⟨p, v, rfl, hd, q⟩
  · cases (show ov = Value.ref p from r1)
    obtain ⟨tk, rfl⟩ := r2
    obtain ⟨its, rv, pl, hz⟩ := I.list hs
    obtain ⟨u, hu, ru⟩ := rv.get hx
    have hlt : n.toNat < xs.length := (List.getElem?_eq_some_iff.mp hx).1
    have hle : n < 2 ^ 63 := by
      have := line63
      omega
    exact wpAny_getItem_list pl.isList h0 hle (by simpa using hu) ⟨v, H, I, ru, q⟩
  · cases (show ov = Value.ref p from r1)
    exact d_getItem hu I hd r2 fun w' s' I' rw' => ⟨v, H, I', rw', q⟩
def uSet : V → V → V → Hp → (Hp → Prop) → Prop := fun o i v H Q => rSetL o i v H Q ∨ ∃ p H', o = .ref p ∧ DPut H p i v H' ∧ Q H'
theorem set_any (hu : X.A.units + 1 < cLine) : PSet X uSet := by
  intro pins s σ H o i v ov iv u Q I r1 r2 r3 h
  rcases h with h | ⟨p, H', rfl, hd, q⟩
  · exact set_list pins s σ H o i v ov iv u Q I r1 r2 r3 h
  · cases (show ov = Value.ref p from r1)
    exact d_setItem hu I hd r2 r3 fun s' I' => ⟨H', I', q⟩
theorem ip_of {op : Operator} {r : R2} (h : OpR X (inplaceOp op) r) : PIp X op r := fun pins s σ H x y v u Q I a b q => h pins s σ H x y v u Q I a b q
/-- repr of data -/
def rRepr (K : PySem.W.Frag) : List V → Hp → VK → Prop := fun xs H Q => ∃ v d, xs = [v] ∧ Dp K H v d ∧ d.showable = true ∧ d.canLay0 = true ∧ d.depth ≤ 60 ∧ d.shown.length ≤ sizeLine ∧ Q (.str d.shown) H
theorem cr_repr (hg : X.A.guards = some []) (hu : X.A.units + 64 < cLine) : CallR X (.builtin "repr") (rRepr X.K) := by
  intro pins s σ H xs us Q I r h
  obtain ⟨v, d, rfl, hd, hs, hc, hp, hz, q⟩ := h
  obtain ⟨u, rfl, ru⟩ := vals1 r
  obtain ⟨as, rd⟩ := Dp.reads I d v u hd ru
  cases hd with
  | non =>
    cases (show u = Value.none from ru)
    refine PySem.P.repr_of_none ⟨.str _, H, I.tok _, ⟨_, rfl⟩, ?_⟩
    simpa only [PyData.shown] using q
  | bl b =>
    cases (show u = Value.bool b from ru)
    refine PySem.P.repr_of_bool ⟨.str _, H, I.tok _, ⟨_, rfl⟩, ?_⟩
    simpa only [PyData.shown] using q
  | int i =>
    obtain ⟨t, rfl⟩ := ru
    refine PySem.P.repr_of_int (by simpa [PyData.showable] using hs) ⟨.str _, H, I.tok _, ⟨_, rfl⟩, ?_⟩
    simpa only [PyData.shown] using q
  | str x =>
    obtain ⟨t, rfl⟩ := ru
    refine PySem.P.repr_of_str ⟨.str _, H, I.tok _, ⟨_, rfl⟩, ?_⟩ (by simpa only [PyData.shown] using hz)
    simpa only [PyData.shown] using q
  | lst h1 h2 =>
    rename_i a ys ds
    cases (show u = Value.ref a from ru)
    exact repr_of_reads' rd hs (PyData.noDict_hsm (PyData.hasDict_of_canLay _ hc)) hg (by omega) (fun _ _ e => e) (fun h' u tk k => ⟨.str _, H, I.kept k, ⟨_, rfl⟩, q⟩) hz
  | tup h1 h2 =>
    rename_i a ys ds
    cases (show u = Value.ref a from ru)
    exact repr_of_reads' rd hs (PyData.noDict_hsm (PyData.hasDict_of_canLay _ hc)) hg (by omega) (fun _ _ e => e) (fun h' u tk k => ⟨.str _, H, I.kept k, ⟨_, rfl⟩, q⟩) hz
/-- len -/
def uLen (K : PySem.W.Frag) : List V → Hp → VK → Prop := fun xs H Q => (∃ x n, xs = [x] ∧ LenV K x H n ∧ Q (.int n) H) ∨ ∃ d kvs, xs = [.ref d] ∧ H d = some (.dK kvs) ∧ Q (.int (kvs.length : Nat)) H
theorem cr_len : CallR X (.builtin "len") (uLen X.K) := call_len.or call_lenD
/-- a constant of the module -/
theorem pe_globI {x : Str} {i : Int} {pos : Pos} (hg : Gl X x) (hm : ∃ t, X.mg x = some (.int i t)) (hd : (x == ("__debug__" : Str)) = false := by decide) : PE X (.Name x pos) (tC (.int i)) := by
  obtain ⟨t, hm⟩ := hm
  exact pe_glob hg hm ⟨t, rfl⟩ hd
theorem pe_globS {x z : Str} {pos : Pos} (hg : Gl X x) (hm : ∃ t, X.mg x = some (.str z t)) (hd : (x == ("__debug__" : Str)) = false := by decide) : PE X (.Name x pos) (tC (.str z)) := by
  obtain ⟨t, hm⟩ := hm
  exact pe_glob hg hm ⟨t, rfl⟩ hd
/-- o[i] -/
def uIx (K : PySem.W.Frag) : R2 := rIx K
theorem ix_any : IxR X (uIx X.K) := ix_seq
/-- slices of lists, tuples, texts -/
def uSl (K : PySem.W.Frag) : V → Option Int → Option Int → Hp → VK → Prop := fun x lo hi H Q => rSlL K x lo hi H Q ∨ rSlT K x lo hi H Q
theorem sl_any : SlR X (uSl X.K) := sl_list.or sl_tup
end
/-! ### readings, step by step -/
section
variable {K : PySem.W.Frag} {σ : L2.St} {H : Hp} {Q : VK} {D : Ends} {t u : TS} {te ta tb tc : TE} {tt : TT} {Rs : List Res} {E : XK}
theorem g_seq (k : t { D with nx := u D } σ H) : tSeq t u D σ H := k
theorem g_next (k : D.nx σ H) : tNext D σ H := k
theorem g_asg {i : Nat} (k : te σ H fun x H1 => D.nx (σ.set i (some x)) H1) : tAsg te (gName i) D σ H := k
theorem g_asgX {g : TG} (k : te σ H fun x H1 => g x σ H1 D.nx) : tAsg te g D σ H := k
theorem g_drop (k : te σ H fun _ H1 => D.nx σ H1) : tDrop te D σ H := k
theorem g_ret (k : te σ H D.rt) : tRet te D σ H := k
theorem g_retN (k : D.rt .non H) : tRetN D σ H := k
theorem g_if (k : tt σ H fun b H1 => if b = true then t D σ H1 else u D σ H1) : tIfS tt t u D σ H := k
theorem g_nx {f r b c} (k : f σ H) : (Ends.mk f r b c).nx σ H := k
theorem g_rt {f b c} {r : VK} {v : V} (k : r v H) : (Ends.mk f r b c).rt v H := k
theorem g_bk {f b c} {r : VK} (k : b σ H) : (Ends.mk f r b c).bk σ H := k
theorem g_ct {f b c} {r : VK} (k : c σ H) : (Ends.mk f r b c).ct σ H := k
theorem g_var {i : Nat} {v : V} (h : σ[i]? = some (some v)) (k : Q v H) : tVar i σ H Q := ⟨v, h, k⟩
theorem g_c {v : V} (k : Q v H) : tC v σ H Q := k
theorem g_op {r : R2} (k : ta σ H fun x H1 => tb σ H1 fun y H2 => r x y H2 Q) : tOp r ta tb σ H Q := k
theorem g_un {r : V → Hp → VK → Prop} (k : ta σ H fun x H1 => r x H1 Q) : tUn r ta σ H Q := k
theorem g_nil {Q : List V → Hp → Prop} (k : Q [] H) : tNil σ H Q := k
theorem g_cons {tr : TA} {Q : List V → Hp → Prop} (k : ta σ H fun x H1 => tr σ H1 fun xs H2 => Q (x :: xs) H2) : tCons ta tr σ H Q := k
theorem g_cb {r : List V → Hp → VK → Prop} {t : TA} (k : t σ H fun vs H1 => r vs H1 Q) : tCB r t σ H Q := k
theorem g_call {sp : Sp} {dvs : List V} {t : TA} (k : t σ H fun vs H1 => sp (vs ++ dvs) H1 Q E) : tCall sp dvs E t σ H Q := k
def LstK (Q : VK) : List V → Hp → Prop := fun xs H1 => xs.length ≤ sizeLine ∧ ∀ p, H1 p = none → Q (.ref p) (upd H1 p (.lst xs))
def TupK (Q : VK) : List V → Hp → Prop := fun xs H1 => xs.length ≤ sizeLine ∧ ∀ p, H1 p = none → Q (.ref p) (upd H1 p (.tup xs))
theorem g_lst {t : TA} (k : t σ H (LstK Q)) : tLst t σ H Q := k
theorem g_tup {t : TA} (k : t σ H (TupK Q)) : tTup t σ H Q := k
/-- a display is laid -/
theorem v_lst {xs : List V} (S : M Rs H) (hn : xs.length ≤ 100000) (k : ∀ p H', M (pt p (.lst xs) :: Rs) H' → Q (.ref p) H') : LstK Q xs H :=
  ⟨Nat.le_trans hn (by decide), fun p hp => k p _ (S.new hp)⟩
theorem v_tup {xs : List V} (S : M Rs H) (hn : xs.length ≤ 100000) (k : ∀ p H', M (pt p (.tup xs) :: Rs) H' → Q (.ref p) H') : TupK Q xs H :=
  ⟨Nat.le_trans hn (by decide), fun p hp => k p _ (S.new hp)⟩
theorem g_test {Q : Bool → Hp → Prop} (k : te σ H fun x H' => ∃ b, x = .bl b ∧ Q b H') : tTest te σ H Q := k
theorem g_B {Q : Bool → Hp → Prop} (k : te σ H fun x H' => ∃ b, x = .bl b ∧ Q b H') : tB te σ H Q := k
theorem g_bl {b : Bool} {Q : Bool → Prop} (k : Q b) : ∃ c, V.bl b = .bl c ∧ Q c := ⟨b, rfl, k⟩
theorem g_and {s : TT} {Q : Bool → Hp → Prop} (k : tt σ H fun c H1 => if c = true then s σ H1 Q else Q false H1) : tAnd tt s σ H Q := k
theorem g_or {s : TT} {Q : Bool → Hp → Prop} (k : tt σ H fun c H1 => if c = true then Q true H1 else s σ H1 Q) : tOr tt s σ H Q := k
theorem g_not {Q : Bool → Hp → Prop} (k : tt σ H fun c H1 => Q (!c) H1) : tNot tt σ H Q := k
theorem g_andV (k : ta σ H fun x H1 => ∃ c, x = .bl c ∧ if c = true then tb σ H1 Q else Q (.bl false) H1) : tAndV ta tb σ H Q := k
theorem g_orV (k : ta σ H fun x H1 => ∃ c, x = .bl c ∧ if c = true then Q (.bl true) H1 else tb σ H1 Q) : tOrV ta tb σ H Q := k
theorem g_notV (k : ta σ H fun x H1 => ∃ c, x = .bl c ∧ Q (.bl (!c)) H1) : tNotV ta σ H Q := k
theorem g_ifE (k : tt σ H fun c H1 => if c = true then ta σ H1 Q else tb σ H1 Q) : tIf tt ta tb σ H Q := k
theorem g_chain {r r' : R2} (k : ta σ H fun x H1 => tb σ H1 fun y H2 => r x y H2 fun z H3 => ∃ k, z = .bl k ∧ (if k = true then tc σ H3 fun w' H4 => r' y w' H4 Q else Q (.bl false) H3)) : tChain r r' ta tb tc σ H Q := k
theorem g_aug {i : Nat} {ti : TIp} {v : V} (h : σ[i]? = some (some v)) (k : te σ H fun y H1 => ti v y H1 fun z H2 => D.nx (σ.set i (some z)) H2) : tAug i te ti D σ H := ⟨v, h, k⟩
theorem g_augS {tget : V → V → Hp → VK → Prop} {tip : TIp} {tset : TSet} (k : ta σ H fun o H1 => tb σ H1 fun i H2 => tget o i H2 fun x H3 => te σ H3 fun y H4 => tip x y H4 fun z H5 => tset o i z H5 fun H6 => D.nx σ H6) :
    tAugS ta tb te tget tip tset D σ H := k
theorem g_sub {t3 : TSet} {v : V} {Q : L2.St → Hp → Prop} (k : ta σ H fun o H1 => tb σ H1 fun i H2 => t3 o i v H2 fun H3 => Q σ H3) : gSub ta tb t3 v σ H Q := k
theorem g_sl {r : V → Option Int → Option Int → Hp → VK → Prop} {tl th : TO} (k : te σ H fun x H1 => tl σ H1 fun l H2 => th σ H2 fun u H3 => r x l u H3 Q) : tSl r te tl th σ H Q := k
theorem g_noPart {Q : Option Int → Hp → Prop} (k : Q none H) : tNoPart σ H Q := k
theorem g_part {Q : Option Int → Hp → Prop} (k : te σ H fun x H1 => ∃ i, x = .int i ∧ Q (some i) H1) : tPart te σ H Q := k
theorem g_int {i : Int} {Q : Int → Prop} (k : Q i) : ∃ j, V.int i = .int j ∧ Q j := ⟨i, rfl, k⟩
/-! values -/
theorem v_add {i j : Int} (k : Q (.int (i + j)) H) : uAdd K (.int i) (.int j) H Q := .inl ⟨i, j, rfl, rfl, k⟩
theorem v_sub {i j : Int} (k : Q (.int (i - j)) H) : uSub (.int i) (.int j) H Q := ⟨i, j, rfl, rfl, k⟩
theorem v_mul {i j : Int} (h : CMul i j ∨ CMulW i j) (k : Q (.int (i * j)) H) : uMul (.int i) (.int j) H Q := h.elim (fun h => .inl ⟨i, j, rfl, rfl, h, k⟩) fun h => .inr (.inl ⟨i, j, rfl, rfl, h, k⟩)
theorem v_mod {i j : Int} (h : 0 < j) (k : Q (.int (i % j)) H) : uMod (.int i) (.int j) H Q := ⟨i, j, rfl, rfl, h, k⟩
theorem div_ok {i j : Int} (h : 0 < j ∧ j < 2 ^ 64) : CDivW i j := wide_div (b := 64) h.1 (by omega) (by decide) (by decide)
theorem v_div {i j : Int} (h : 0 < j ∧ j < 2 ^ 64) (k : Q (.int (i / j)) H) : uDiv (.int i) (.int j) H Q := ⟨i, j, rfl, rfl, div_ok h, k⟩
theorem v_iadd {i j : Int} (k : Q (.int (i + j)) H) : iAdd (.int i) (.int j) H Q := .inl ⟨i, j, rfl, rfl, k⟩
theorem v_isub {i j : Int} (k : Q (.int (i - j)) H) : iSub (.int i) (.int j) H Q := ⟨i, j, rfl, rfl, k⟩
theorem v_imul {i j : Int} (h : CMul i j) (k : Q (.int (i * j)) H) : iMul (.int i) (.int j) H Q := ⟨i, j, rfl, rfl, h, k⟩
theorem v_idiv {i j : Int} (h : CDiv i j) (k : Q (.int (i / j)) H) : iDiv (.int i) (.int j) H Q := ⟨i, j, rfl, rfl, h, k⟩
theorem v_lt {i j : Int} (k : Q (.bl (decide (i < j))) H) : uLt (.int i) (.int j) H Q := ⟨i, j, rfl, rfl, k⟩
theorem v_le {i j : Int} (k : Q (.bl (decide (i ≤ j))) H) : uLe (.int i) (.int j) H Q := ⟨i, j, rfl, rfl, k⟩
theorem v_gt {i j : Int} (k : Q (.bl (decide (j < i))) H) : uGt (.int i) (.int j) H Q := ⟨i, j, rfl, rfl, k⟩
theorem v_ge {i j : Int} (k : Q (.bl (decide (j ≤ i))) H) : uGe (.int i) (.int j) H Q := ⟨i, j, rfl, rfl, k⟩
theorem v_eqI {i j : Int} (k : Q (.bl (decide (i = j))) H) : uEq K (.int i) (.int j) H Q := .inl ⟨rfl, by
  have e : decide (V.int i = V.int j) = decide (i = j) := decide_eq_decide.mpr ⟨fun h => V.int.inj h, fun h => by rw [h]⟩
  rw [e]
  exact k⟩
theorem v_neI {i j : Int} (k : Q (.bl (!decide (i = j))) H) : uNe K (.int i) (.int j) H Q := .inl ⟨rfl, by
  have e : decide (V.int i = V.int j) = decide (i = j) := decide_eq_decide.mpr ⟨fun h => V.int.inj h, fun h => by rw [h]⟩
  rw [e]
  exact k⟩
theorem v_eqS {i j : Str} (k : Q (.bl (decide (i = j))) H) : uEq K (.str i) (.str j) H Q := .inl ⟨rfl, by
  have e : decide (V.str i = V.str j) = decide (i = j) := decide_eq_decide.mpr ⟨fun h => V.str.inj h, fun h => by rw [h]⟩
  rw [e]
  exact k⟩
theorem v_eqB {i j : Bool} (k : Q (.bl (decide (i = j))) H) : uEq K (.bl i) (.bl j) H Q := .inl ⟨rfl, by
  have e : decide (V.bl i = V.bl j) = decide (i = j) := decide_eq_decide.mpr ⟨fun h => V.bl.inj h, fun h => by rw [h]⟩
  rw [e]
  exact k⟩
theorem v_neB {i j : Bool} (k : Q (.bl (!decide (i = j))) H) : uNe K (.bl i) (.bl j) H Q := .inl ⟨rfl, by
  have e : decide (V.bl i = V.bl j) = decide (i = j) := decide_eq_decide.mpr ⟨fun h => V.bl.inj h, fun h => by rw [h]⟩
  rw [e]
  exact k⟩
theorem v_eqD {x y : V} {d e : PyData} (h1 : Dp K H x d) (h2 : Dp K H y e) (s1 : SeqAt.shaped d = true) (s2 : SeqAt.shaped e = true) (k : Q (.bl (PyData.eqv d e)) H) : uEq K x y H Q := .inr ⟨d, e, h1, h2, s1, s2, k⟩
theorem v_neD {x y : V} {d e : PyData} (h1 : Dp K H x d) (h2 : Dp K H y e) (s1 : SeqAt.shaped d = true) (s2 : SeqAt.shaped e = true) (k : Q (.bl (!PyData.eqv d e)) H) : uNe K x y H Q := .inr ⟨d, e, h1, h2, s1, s2, k⟩
theorem v_ixL {p : Addr} {xs : List V} {i : Int} {v : V} (h : SqL K H p xs) (ha : atI xs i = some v) (k : Q v H) : uIx K (.ref p) (.int i) H Q := .inl ⟨p, xs, i, v, rfl, rfl, h, ha, k⟩
theorem v_ixT {p : Addr} {xs : List V} {i : Int} {v : V} (h : SqT K H p xs) (ha : atI xs i = some v) (k : Q v H) : uIx K (.ref p) (.int i) H Q := .inr (.inl ⟨p, xs, i, v, rfl, rfl, h, ha, k⟩)
theorem v_get {p : Addr} {xs : List V} {n : Int} {v : V} (h : SqL K H p xs) (h0 : 0 ≤ n) (ha : xs[n.toNat]? = some v) (k : Q v H) : gIx K (.ref p) (.int n) H Q := .inl ⟨p, xs, n, v, rfl, rfl, h, h0, ha, k⟩
theorem ixN_int {n : Nat} {i : Int} (h0 : 0 ≤ i) (h1 : i < n) : ixN n i = some i.toNat := by
  unfold ixN
  rw [if_pos h0, if_pos h1]
theorem atI_int {α : Type} {xs : List α} {i : Int} {v : α} (h0 : 0 ≤ i) (h : xs[i.toNat]? = some v) : atI xs i = some v := by
  have hl := (List.getElem?_eq_some_iff.mp h).1
  unfold atI
  rw [ixN_int h0 (by omega)]
  exact h
theorem atI_ints {ns : List Int} {i : Int} (h0 : 0 ≤ i) (h1 : i < ns.length) : atI (ns.map V.int) i = some (.int (ns.getD i.toNat 0)) := by
  refine atI_int h0 ?_
  have hl : i.toNat < ns.length := by omega
  rw [List.getElem?_map, List.getElem?_eq_getElem hl, List.getD_eq_getElem?_getD, List.getElem?_eq_getElem hl]
  rfl
theorem ixN_nat {n j : Nat} (hj : j < n) : ixN n (j : Int) = some j := by
  unfold ixN
  rw [if_pos (Int.natCast_nonneg j), if_pos (by omega)]
  simp
/-- xs[j] = v, the list owned -/
theorem v_set {p : Addr} {xs : List V} {n : Int} {j : Nat} {v : V} {Q : Hp → Prop} (S : M Rs H) (i : Nat) (e : Rs[i]? = some (pt p (.lst xs))) (hj : ixN xs.length n = some j) (k : ∀ H', M (Rs.set i (pt p (.lst (xs.set j v)))) H' → Q H') :
    uSet (.ref p) (.int n) v H Q := .inl ⟨p, xs, n, j, rfl, rfl, S.got i e, hj, k _ (S.putAt i e)⟩
theorem v_cat {a b : Addr} {xs ys : List V} (S : M Rs H) (h1 : H a = some (.lst xs)) (h2 : H b = some (.lst ys)) (hz : xs.length + ys.length ≤ 100000) (k : ∀ p H', M (pt p (.lst (xs ++ ys)) :: Rs) H' → Q (.ref p) H') : uAdd K (.ref a) (.ref b) H Q :=
  .inr (.inr (.inl ⟨a, b, xs, ys, rfl, rfl, SqL.of h1, SqL.of h2, Nat.le_trans hz (by decide), fun p hp => k p _ (S.new hp)⟩))
theorem v_catS {a b : Addr} {xs ys : List V} (S : M Rs H) (h1 : SqL K H a xs) (h2 : SqL K H b ys) (hz : xs.length + ys.length ≤ 100000) (k : ∀ p H', M (pt p (.lst (xs ++ ys)) :: Rs) H' → Q (.ref p) H') : uAdd K (.ref a) (.ref b) H Q :=
  .inr (.inr (.inl ⟨a, b, xs, ys, rfl, rfl, h1, h2, Nat.le_trans hz (by decide), fun p hp => k p _ (S.new hp)⟩))
theorem v_slL {a : Addr} {xs : List V} {lo hi : Option Int} (S : M Rs H) (h : SqL K H a xs) (k : ∀ p H', M (pt p (.lst (cutV xs lo hi)) :: Rs) H' → Q (.ref p) H') : uSl K (.ref a) lo hi H Q :=
  .inl ⟨a, xs, rfl, h, fun p hp => k p _ (S.new hp)⟩
def RevK (K : PySem.W.Frag) (Q : VK) : VK := fun x H1 => ∃ a xs, x = .ref a ∧ SqL K H1 a xs ∧ ∀ p, H1 p = none → Q (.ref p) (upd H1 p (.lst xs.reverse))
theorem g_rev (k : te σ H (RevK K Q)) : tRevL K te σ H Q := k
theorem v_rev {a : Addr} {xs : List V} (S : M Rs H) (h : SqL K H a xs) (k : ∀ p H', M (pt p (.lst xs.reverse) :: Rs) H' → Q (.ref p) H') : RevK K Q (.ref a) H :=
  ⟨a, xs, rfl, h, fun p hp => k p _ (S.new hp)⟩
theorem v_lenL {a : Addr} {xs : List V} (h : SqL K H a xs) (k : Q (.int (xs.length : Nat)) H) : uLen K [.ref a] H Q := .inl ⟨_, _, rfl, .inl ⟨xs, h, rfl⟩, k⟩
/-- xs.append(v) -/
theorem g_bm {T : String} {r : V → List V → Hp → VK → Prop} {t : TA} (k : te σ H fun x H1 => tyV K T x H1 ∧ t σ H1 fun xs H2 => r x xs H2 Q) : tBM K T r te t σ H Q := k
theorem g_bm0 {T : String} {r : V → List V → Hp → VK → Prop} (k : te σ H fun x H1 => tyV K T x H1 ∧ r x [] H1 Q) : tBM0 K T r te σ H Q := k
theorem v_tyL {a : Addr} {xs : List V} {φ : Prop} (h : SqL K H a xs) (k : φ) : tyV K "list" (.ref a) H ∧ φ := ⟨.inl ⟨rfl, xs, h⟩, k⟩
theorem v_app {p : Addr} {xs : List V} {v : V} (S : M Rs H) (i : Nat) (e : Rs[i]? = some (pt p (.lst xs))) (hz : xs.length < 100000) (k : ∀ H', M (Rs.set i (pt p (.lst (xs ++ [v])))) H' → Q .non H') : rAppend (.ref p) [v] H Q :=
  ⟨p, xs, v, rfl, rfl, S.got i e, Nat.lt_of_lt_of_le hz (by decide), k _ (S.putAt i e)⟩
theorem v_if {b : Bool} {A B : Prop} (h1 : b = true → A) (h2 : b = false → B) : if b = true then A else B := by
  cases b with
  | true => exact h1 rfl
  | false => exact h2 rfl
theorem v_ifD {c : Prop} [Decidable c] {A B : Prop} (h1 : c → A) (h2 : ¬ c → B) : if decide c = true then A else B := by
  by_cases h : c
  · rw [decide_eq_true h]
    exact h1 h
  · rw [decide_eq_false h]
    exact h2 h
theorem v_ifN {c : Prop} [Decidable c] {A B : Prop} (h1 : ¬ c → A) (h2 : c → B) : if (!decide c) = true then A else B := by
  by_cases h : c
  · rw [decide_eq_true h]
    exact h2 h
  · rw [decide_eq_false h]
    exact h1 h
theorem v_ifT {A B : Prop} (k : A) : if true = true then A else B := k
theorem v_ifF {A B : Prop} (k : B) : if false = true then A else B := k
end
end RC
namespace RC
open PySem PySem.Spec PyProof.Rows L2
/-- the function object at an address -/
def fdOf (K : PySem.W.Frag) (f : Addr) : FuncData := match K.lookup f with
  | some ⟨_, _, .func fd, _⟩ => fd
  | _ => PySem.W.fnOf "" "" ⟨[], [], none, [], [], none, []⟩ [] ⟨.function, [], false, false, []⟩ .none .none .none .none none .none .none
theorem fd_of {K : PySem.W.Frag} {x q : Str} {ar : Arguments} {bd : List Stmt} {sc : Scope} {dvs : List V} {kws : List (Str × V)} {f : Addr} (h : ∃ fd, FunD K x q ar bd sc dvs kws f fd) : FunD K x q ar bd sc dvs kws f (fdOf K f) := by
  obtain ⟨fd, F⟩ := h
  have e : fdOf K f = fd := by
    obtain ⟨⟨oc, od, dV, kV, doc, pm, an, cdv, ct, osl, rfl, lk, _, _, _⟩, _⟩ := F
    unfold fdOf
    rw [lk]
  rw [e]
  exact F
/-- a list that may be read for ever -/
def rdL (K : PySem.W.Frag) (a : Addr) (xs : List V) : Res := ⟨fun F l => l = [] ∧ SqL K F a xs, fun _ _ _ e h => ⟨h.1, e.sqL h.2⟩⟩
theorem M.start {K : PySem.W.Frag} {H : Hp} {a : Addr} {xs : List V} (h : SqL K H a xs) : M [rdL K a xs] H :=
  ⟨H, [], ⟨[], [], rfl, ⟨rfl, h⟩, rfl⟩, ⟨Ext.refl H, (fun _ h => nomatch h), List.nodup_nil⟩⟩
theorem M.gotR {K : PySem.W.Frag} {Rs : List Res} {H : Hp} {a : Addr} {xs : List V} (h : M Rs H) (i : Nat) (e : Rs[i]? = some (rdL K a xs)) : SqL K H a xs := by
  obtain ⟨F, L, ⟨l1, l2, rfl, ⟨_, q⟩, b⟩, m⟩ := h.at i e
  exact m.ex.sqL q
/-- what the resources bring about -/
def Ent (Rs : List Res) (φ : Hp → Prop) : Prop := ∀ H, M Rs H → φ H
def rAbs : List V → Hp → VK → Prop := fun xs H Q => ∃ i, xs = [.int i] ∧ Q (.int (if i < 0 then -i else i)) H
theorem cr_abs {X : Cx} : CallR X (.builtin "abs") rAbs := call_abs
def rListOf (K : PySem.W.Frag) : List V → Hp → VK → Prop := fun xs H Q => ∃ p ys, xs = [.ref p] ∧ (SqL K H p ys ∨ SqT K H p ys) ∧ ∀ l, H l = none → Q (.ref l) (upd H l (.lst ys))
theorem cr_list {X : Cx} : CallR X (.type "list") (rListOf X.K) := call_list_of
theorem v_abs {i : Int} {H : Hp} {Q : VK} (k : Q (.int (if i < 0 then -i else i)) H) : rAbs [.int i] H Q := ⟨i, rfl, k⟩
theorem v_list {K : PySem.W.Frag} {Rs : List Res} {H : Hp} {Q : VK} {a : Addr} {xs : List V} (S : M Rs H) (h : SqL K H a xs ∨ SqT K H a xs) (k : ∀ p H', M (pt p (.lst xs) :: Rs) H' → Q (.ref p) H') : rListOf K [.ref a] H Q :=
  ⟨a, xs, rfl, h, fun p hp => k p _ (S.new hp)⟩
def rIsN : R2 := fun x y H Q => y = .non ∧ Q (.bl (decide (x = .non))) H
def rNotN : R2 := fun x y H Q => y = .non ∧ Q (.bl (!decide (x = .non))) H
end RC
namespace RC
open PySem PySem.Spec PyProof.Rows L2
/-! ### loops -/
def ForW (J : It) (g : TG) (tb : TS) (D : Ends) (σ : L2.St) (H1 : Hp) : Prop := ∃ W : Nat → Nat → L2.St → Hp → Prop, (∃ m, W 0 m σ H1) ∧ ∀ i m σ H, W i m σ H →
  (J.stop i H ∧ D.nx σ H) ∨ (J.go i H ∧ ∃ N : L2.St → Hp → Prop, (∀ σ' H', N σ' H' → ∃ m', m' < m ∧ W (i + 1) m' σ' H') ∧ ∀ x H', J.yld i H x H' → g x σ H' fun σ2 H2 => tb { D with nx := N, ct := N, bk := D.nx } σ2 H2)
def LcW (J : It) (g : TG) (tt : TT) (te : TE) (vs : List Nat) (σ : L2.St) (Q : VK) (H1 : Hp) : Prop := ∀ D, H1 D = none → ∃ W : Nat → Nat → Hp → Prop, (∃ m, W 0 m (upd H1 D (.lst []))) ∧ ∀ i m H, W i m H →
  (J.stop i H ∧ Q (.ref D) H) ∨ (J.go i H ∧ ∃ Nx : Hp → Prop, (∀ H', Nx H' → ∃ m', m' < m ∧ W (i + 1) m' H') ∧ ∀ x H', J.yld i H x H' → g x (wipe σ vs) H' fun σ2 H2 => wipe σ2 vs = wipe σ vs ∧ tt σ2 H2 fun b H3 =>
    if b = true then te σ2 H3 fun y H4 => ∃ acc, H4 D = some (.lst acc) ∧ acc.length < sizeLine ∧ Nx (upd H4 D (.lst (acc ++ [y]))) else Nx H3)
section
variable {K : PySem.W.Frag} {σ : L2.St} {H : Hp} {Q : VK} {D : Ends} {tb : TS} {te tl : TE} {ta : TA} {tt : TT} {g : TG} {vs : List Nat} {wi : TI} {J : It} {R : It → Hp → Prop} {a : Addr} {xs : List V} {Rs : List Res}
theorem g_for (k : wi σ H fun J H1 => ForW J g tb D σ H1) : tFor wi g tb D σ H := k
theorem g_lc (k : wi σ H fun J H1 => LcW J g tt te vs σ Q H1) : tLc wi g tt te vs σ H Q := k
def ItL (K : PySem.W.Frag) (R : It → Hp → Prop) : VK := fun x H1 => ∃ a, x = .ref a ∧ (∃ xs, SqL K H1 a xs) ∧ R (Itl K a) H1
def ItR (R : It → Hp → Prop) : List V → Hp → Prop := fun vs H1 => ∃ j : Int, vs = [.int j] ∧ -(2 ^ 62) ≤ j ∧ j < 2 ^ 62 ∧ R (Itr 0 j.toNat) H1
def ItV (K : PySem.W.Frag) (R : It → Hp → Prop) : List V → Hp → Prop := fun vs H1 => ∃ (a : Addr) (xs : List V), vs = [.ref a] ∧ SqL K H1 a xs ∧ R (Itv K a xs.length) H1
theorem g_iList (k : tl σ H (ItL K R)) : iList K tl σ H R := k
theorem v_itL (h : SqL K H a xs) (k : R (Itl K a) H) : ItL K R (.ref a) H := ⟨a, rfl, ⟨xs, h⟩, k⟩
theorem g_iRng1 (k : ta σ H (ItR R)) : iRng1 ta σ H R := k
theorem v_itR {j : Int} (h : -(2 ^ 62) ≤ j ∧ j < 2 ^ 62) (k : R (Itr 0 j.toNat) H) : ItR R [V.int j] H := ⟨j, rfl, h.1, h.2, k⟩
theorem g_iRev (k : ta σ H (ItV K R)) : iRev K ta σ H R := k
theorem v_itV (h : SqL K H a xs) (k : R (Itv K a xs.length) H) : ItV K R [V.ref a] H := ⟨a, xs, rfl, h, k⟩
/-- a for, by a word of the turn, the slots and the heap -/
theorem for_W {n : Nat} {G : Hp → Prop} {Y : Nat → Hp → V → Hp → Prop} (w : Walk J n G Y) (Pv : Nat → L2.St → Hp → Prop) (h0 : Pv 0 σ H) (hG : ∀ i σ H, i ≤ n → Pv i σ H → G H)
    (hs : ∀ i x σ H H', i < n → Pv i σ H → Y i H x H' → g x σ H' fun σ2 H2 => tb { D with nx := Pv (i + 1), ct := Pv (i + 1), bk := D.nx } σ2 H2) (hd : ∀ σ H, Pv n σ H → D.nx σ H) : ForW J g tb D σ H := for_it w Pv h0 hG hs hd
/-- a comprehension: P of the turn and the items so far; the resources Rs stand at each turn -/
def PvM (P : Nat → List V → Prop) (E : Addr) (Rs : List Res) (i : Nat) (H : Hp) : Prop := ∃ acc, P i acc ∧ M (pt E (.lst acc) :: Rs) H
def LcK (N : Hp → Prop) (E : Addr) : VK := fun y H4 => ∃ acc, H4 E = some (.lst acc) ∧ acc.length < sizeLine ∧ N (upd H4 E (.lst (acc ++ [y])))
theorem lc_W {n : Nat} {G : Hp → Prop} {Y : Nat → Hp → V → Hp → Prop} (w : Walk J n G Y) (S : M Rs H) (P : Nat → List V → Prop) (h0 : P 0 []) (hG : ∀ H, M Rs H → G H)
    (hs : ∀ i x acc E H H', i < n → P i acc → M (pt E (.lst acc) :: Rs) H → Y i H x H' → g x (wipe σ vs) H' fun σ2 H2 => wipe σ2 vs = wipe σ vs ∧ tt σ2 H2 fun b H3 => if b = true then te σ2 H3 (LcK (PvM P E Rs (i + 1)) E) else PvM P E Rs (i + 1) H3)
    (hd : ∀ E acc H, P n acc → M (pt E (.lst acc) :: Rs) H → Q (.ref E) H) : LcW J g tt te vs σ Q H := by
  intro E hE
  refine lc_it w (PvM P E Rs) ⟨[], h0, S.new hE⟩ (fun i H _ ⟨acc, _, S⟩ => hG H S.tl) (fun i x H H' hi ⟨acc, hp, S⟩ y => hs i x acc E H H' hi hp S y) fun H ⟨acc, hp, S⟩ => hd E acc H hp S
theorem lc_next {N : Hp → Prop} {E : Addr} {y : V} {acc : List V} (S : M Rs H) (i : Nat) (e : Rs[i]? = some (pt E (.lst acc))) (hz : acc.length < 100000) (k : ∀ H', M (Rs.set i (pt E (.lst (acc ++ [y])))) H' → N H') : LcK N E y H :=
  ⟨acc, S.got i e, Nat.lt_of_lt_of_le hz (by decide), k _ (S.putAt i e)⟩
theorem g_yes {Q : Bool → Hp → Prop} (k : Q true H) : tYes σ H Q := k
theorem g_name {i : Nat} {v : V} {Q : L2.St → Hp → Prop} (k : Q (σ.set i (some v)) H) : gName i v σ H Q := k
end
theorem ints_get {ns : List Int} {i : Nat} {x : V} (h : (ns.map V.int)[i]? = some x) : ∃ n, ns[i]? = some n ∧ x = .int n := by
  rw [List.getElem?_map] at h
  cases e : ns[i]? with
  | none =>
    rw [e] at h
    cases h
  | some n =>
    rw [e] at h
    exact ⟨n, rfl, (Option.some.inj h).symm⟩
theorem take_more {α : Type} {l : List α} {i : Nat} {x : α} (h : l[i]? = some x) : l.take (i + 1) = l.take i ++ [x] := by
  rw [List.take_add_one, h]
  rfl
end RC
namespace RC
open PySem PySem.Spec PyProof.Rows L2
theorem cut_to (xs : List V) (k : Nat) : cutV xs none (some (k : Int)) = xs.take k := by
  unfold cutV
  rw [HT.sIx_none, HT.sIx_nat, List.drop_zero, Nat.sub_zero]
  rcases Nat.le_total k xs.length with h | h
  · rw [Nat.min_eq_left h]
  · rw [Nat.min_eq_right h, List.take_of_length_le (Nat.le_refl _), List.take_of_length_le h]
theorem cut_from (xs : List V) (k : Nat) : cutV xs (some (k : Int)) none = xs.drop k := by
  unfold cutV
  rw [HT.sIx_none, HT.sIx_nat]
  rcases Nat.le_total k xs.length with h | h
  · rw [Nat.min_eq_left h, List.take_of_length_le]
    rw [List.length_drop]
    exact Nat.le_refl _
  · rw [Nat.min_eq_right h, List.drop_of_length_le h, List.drop_of_length_le (Nat.le_refl _), List.take_nil]
theorem cut_mid (xs : List V) (a b : Nat) : cutV xs (some (a : Int)) (some (b : Int)) = (xs.drop a).take (b - a) := by
  unfold cutV
  rw [HT.sIx_nat, HT.sIx_nat]
  rcases Nat.le_total a xs.length with h | h
  · rw [Nat.min_eq_left h]
    rcases Nat.le_total b xs.length with g | g
    · rw [Nat.min_eq_left g]
    · rw [Nat.min_eq_right g, List.take_of_length_le, List.take_of_length_le]
      · rw [List.length_drop]
        omega
      · rw [List.length_drop]
        exact Nat.le_refl _
  · rw [Nat.min_eq_right h, List.drop_of_length_le h, List.drop_of_length_le (Nat.le_refl _), List.take_nil, List.take_nil]
theorem g_wipe {a b : L2.St} {φ : Prop} (h : a = b) (k : φ) : a = b ∧ φ := ⟨h, k⟩
end RC
namespace RC
open PySem PySem.Spec PyProof.Rows L2
/-- all are ints of which P holds -/
def AllI (P : Int → Prop) : List V → Prop
  | [] => True
  | .int n :: r => P n ∧ AllI P r
  | _ => False
theorem AllI.get {P : Int → Prop} : ∀ {xs : List V}, AllI P xs → ∀ {j : Nat}, j < xs.length → ∃ n, P n ∧ xs[j]? = some (.int n)
  | [], _, j, h => absurd h (Nat.not_lt_zero _)
  | .int n :: r, h, 0, _ => ⟨n, h.1, rfl⟩
  | .int n :: r, h, j + 1, hj => by
    obtain ⟨m, a, b⟩ := AllI.get h.2 (Nat.lt_of_succ_lt_succ hj)
    exact ⟨m, a, by simpa using b⟩
  | .non :: _, h, _, _ => h.elim
  | .bl _ :: _, h, _, _ => h.elim
  | .str _ :: _, h, _, _ => h.elim
  | .byt _ :: _, h, _, _ => h.elim
  | .flt _ :: _, h, _, _ => h.elim
  | .ref _ :: _, h, _, _ => h.elim
  | .ty _ :: _, h, _, _ => h.elim
/-- one of a written menu of ints -/
theorem menuI {xs : List V} {v : Int} (P : Int → Prop) (h : AllI P xs) (h0 : 0 ≤ v) (h1 : v < xs.length) : ∃ n, P n ∧ atI xs v = some (.int n) := by
  obtain ⟨n, a, b⟩ := h.get (j := v.toNat) (by omega)
  exact ⟨n, a, atI_int h0 b⟩
/-- one of a written menu -/
theorem menu {xs : List V} {v : Int} (h0 : 0 ≤ v) (h1 : v < xs.length) : ∃ x, x ∈ xs ∧ atI xs v = some x := by
  have hl : v.toNat < xs.length := by omega
  exact ⟨xs[v.toNat], List.getElem_mem hl, atI_int h0 (List.getElem?_eq_getElem hl)⟩
theorem set_len {α : Type} {l : List α} {i : Nat} {x : α} : (l.set i x).length = l.length := List.length_set
theorem map_set {α β : Type} (f : α → β) (l : List α) (i : Nat) (x : α) : (l.map f).set i (f x) = (l.set i x).map f := (List.map_set).symm
end RC
namespace RC
theorem v_ifNT {A B : Prop} (k : B) : if (!true) = true then A else B := k
theorem v_ifNF {A B : Prop} (k : A) : if (!false) = true then A else B := k
end RC
namespace RC
open PySem PySem.Spec PyProof.Rows L2
/-- some of the resources, in another order -/
def Sub (Rs' Rs : List Res) : Prop := ∀ F L, Sat F Rs L → ∃ L1 L2, L.Perm (L1 ++ L2) ∧ Sat F Rs' L1
theorem Sub.refl (Rs : List Res) : Sub Rs Rs := fun _ L h => ⟨L, [], by rw [List.append_nil], h⟩
theorem Sub.nil (Rs : List Res) : Sub [] Rs := fun _ L _ => ⟨[], L, .refl _, rfl⟩
theorem Sub.cons {Rs Rs' : List Res} {R : Res} (i : Nat) (e : Rs[i]? = some R) (h : Sub Rs' (Rs.eraseIdx i)) : Sub (R :: Rs') Rs := by
  intro F L s
  obtain ⟨L0, p0, l1, l2, rfl, a, b⟩ := s.perm (perm_at i e)
  obtain ⟨L1, L2, p1, c⟩ := h F l2 b
  refine ⟨l1 ++ L1, L2, p0.trans ?_, l1, L1, rfl, a, c⟩
  rw [List.append_assoc]
  exact p1.append_left l1
theorem Sub.tl {Rs Rs' : List Res} {R : Res} (h : Sub Rs' Rs) : Sub Rs' (R :: Rs) := by
  rintro F L ⟨l1, l2, rfl, a, b⟩
  obtain ⟨L1, L2, p1, c⟩ := h F l2 b
  refine ⟨L1, l1 ++ L2, (p1.append_left l1).trans ?_, c⟩
  rw [← List.append_assoc, ← List.append_assoc]
  exact List.Perm.append_right _ List.perm_append_comm
theorem M.sub {Rs Rs' : List Res} {H : Hp} (q : Sub Rs' Rs) (h : M Rs H) : M Rs' H := by
  obtain ⟨F, L, a, m⟩ := h
  obtain ⟨L1, L2, p, b⟩ := q F L a
  have m2 := m.perm p
  refine ⟨F, L1, b, m2.ex, fun c hc => m2.own c (List.mem_append_left _ hc), ?_⟩
  have nd := m2.nd
  rw [List.map_append] at nd
  exact (List.nodup_append.mp nd).1
end RC
namespace RC
open PySem PySem.Spec PyProof.Rows L2
section
variable {X : Cx}
theorem units65 {k : Nat} {A : Around} (hr : Room k A) : A.units + 65 < cLine := by
  have := hr.un
  omega
def rDIn : R2 := fun x y H Q => ∃ a o, y = .ref a ∧ DGet H a x o ∧ Q (.bl o.isSome) H
def rDNotIn : R2 := fun x y H Q => ∃ a o, y = .ref a ∧ DGet H a x o ∧ Q (.bl (!o.isSome)) H
theorem op_din (hu : X.A.units + 1 < cLine) : OpR X (compareOp .In) rDIn := by
  intro pins s σ H x y v u Q I rx ry h
  obtain ⟨a, o, rfl, g, q⟩ := h
  cases (show u = Value.ref a from ry)
  exact d_in hu I g rx fun s' I' => ⟨.bl o.isSome, H, I', rfl, q⟩
theorem op_dnotin (hu : X.A.units + 1 < cLine) : OpR X (compareOp .NotIn) rDNotIn := by
  intro pins s σ H x y v u Q I rx ry h
  obtain ⟨a, o, rfl, g, q⟩ := h
  cases (show u = Value.ref a from ry)
  exact d_notIn hu I g rx fun s' I' => ⟨.bl (!o.isSome), H, I', rfl, q⟩
def rInS : R2 := fun x y H Q => ∃ i j, x = .str i ∧ y = .str j ∧ Q (.bl (!(Builtin.Str.occurrences j i 0 j.length 1).isEmpty)) H
def rNotInS : R2 := fun x y H Q => ∃ i j, x = .str i ∧ y = .str j ∧ Q (.bl (!(!(Builtin.Str.occurrences j i 0 j.length 1).isEmpty))) H
def uIn (K : PySem.W.Frag) : R2 := fun x y H Q => rIn K false x y H Q ∨ rInD K x y H Q ∨ rDIn x y H Q ∨ rInS x y H Q
def uNotIn (K : PySem.W.Frag) : R2 := fun x y H Q => rIn K true x y H Q ∨ rNotInD K x y H Q ∨ rDNotIn x y H Q ∨ rNotInS x y H Q
theorem uo_in {k : Nat} (hr : Room k X.A) : OpR X (compareOp .In) (uIn X.K) := op_in_seq.or ((op_inD (units65 hr)).or ((op_din (hu_of hr)).or op_in_str))
theorem uo_notin {k : Nat} (hr : Room k X.A) : OpR X (compareOp .NotIn) (uNotIn X.K) := op_notIn_seq.or ((op_notInD (units65 hr)).or ((op_dnotin (hu_of hr)).or op_notin_str))
theorem op_isN' : OpR X (compareOp .Is) rIsN := op_isN
theorem op_notN' : OpR X (compareOp .IsNot) rNotN := op_notN
end
section
variable {K : PySem.W.Frag} {σ : L2.St} {H : Hp} {Q : VK} {D : Ends} {Rs : List Res} {E : XK}
theorem v_neg {i : Int} (k : Q (.int (-i)) H) : rU (fun i => .int (-i)) (.int i) H Q := ⟨i, rfl, k⟩
theorem v_isN {x : V} (k : Q (.bl (decide (x = .non))) H) : rIsN x .non H Q := ⟨rfl, k⟩
theorem v_notN {x : V} (k : Q (.bl (!decide (x = .non))) H) : rNotN x .non H Q := ⟨rfl, k⟩
theorem g_par {i j : Nat} {ta : TA} (k : ta σ H fun vs H1 => ∃ v w, vs = [v, w] ∧ D.nx ((σ.set i (some v)).set j (some w)) H1) : tPar i j ta D σ H := k
theorem v_two {x y : V} {P : V → V → Prop} (k : P x y) : ∃ v w, [x, y] = [v, w] ∧ P v w := ⟨x, y, rfl, k⟩
theorem g_callN {n m : Nat} {sp : Sp} {gV : List V → List V → List V} {t tk : TA} (k : t σ H fun vs H1 => tk σ H1 fun zs H2 => vs.length = n ∧ zs.length = m ∧ sp (gV vs zs) H2 Q E) : tCallN n m sp gV E t tk σ H Q := k
theorem g_callP {n m l : Nat} {π : {α : Type} → List α → List α} {sp : Sp} {gV : List V → List V → List V} {t tk : TA} (k : t σ H fun vs H1 => tk σ H1 fun zs H2 => vs.length = n ∧ zs.length = m ∧ (gV vs zs).length = l ∧ sp (π (gV vs zs)) H2 Q E) : tCallP n m l π sp gV E t tk σ H Q := k
theorem v_lens {a b : List V} {n m : Nat} {P : Prop} (h1 : a.length = n) (h2 : b.length = m) (k : P) : a.length = n ∧ b.length = m ∧ P := ⟨h1, h2, k⟩
/-- a, b = t -/
theorem g_gtup {n : Nat} {t : TGs} {a : Addr} {xs : List V} {Q : L2.St → Hp → Prop} (h : SqT K H a xs) (hn : xs.length = n) (k : t xs σ H Q) : gTup K n t (.ref a) σ H Q := ⟨a, xs, rfl, h, hn, k⟩
theorem g_gnil {Q : L2.St → Hp → Prop} (k : Q σ H) : gNil [] σ H Q := ⟨rfl, k⟩
theorem g_gcons {t : TG} {u : TGs} {v : V} {r : List V} {Q : L2.St → Hp → Prop} (k : t v σ H fun σ' H' => u r σ' H' Q) : gCons t u (v :: r) σ H Q := ⟨v, r, rfl, k⟩
end
end RC
namespace RC
open PySem PySem.Spec PyProof.Rows L2
/-- a comprehension, by a word of the turn and the heap -/
theorem lc_X {H : Hp} {σ : L2.St} {Q : VK} {te : TE} {tt : TT} {g : TG} {vs : List Nat} {J : It} {n : Nat} {G : Hp → Prop} {Y : Nat → Hp → V → Hp → Prop} (w : Walk J n G Y) (Pv : Addr → Nat → Hp → Prop) (h0 : ∀ E, H E = none → Pv E 0 (upd H E (.lst [])))
    (hG : ∀ E i H, i ≤ n → Pv E i H → G H)
    (hs : ∀ E i x H H', i < n → Pv E i H → Y i H x H' → g x (wipe σ vs) H' fun σ2 H2 => wipe σ2 vs = wipe σ vs ∧ tt σ2 H2 fun b H3 => if b = true then te σ2 H3 (LcK (Pv E (i + 1)) E) else Pv E (i + 1) H3)
    (hd : ∀ E H, Pv E n H → Q (.ref E) H) : LcW J g tt te vs σ Q H := by
  intro E hE
  exact lc_it w (Pv E) (h0 E hE) (hG E) (hs E) (hd E)
end RC
namespace RC
open PySem PySem.Spec PyProof.Rows L2
section
variable {K : PySem.W.Frag} {σ : L2.St} {H : Hp} {Q : VK} {D : Ends} {Rs : List Res}
theorem v_pow {i j : Int} (h : 0 ≤ j ∧ j ≤ 1000000 ∧ i.natAbs < 2 ^ 64) (k : Q (.int (i ^ j.toNat)) H) : uPow (.int i) (.int j) H Q := ⟨i, j, rfl, rfl, h, k⟩
theorem v_rep {p : Addr} {xs : List V} {n : Int} (S : M Rs H) (h : H p = some (.lst xs)) (h1 : 0 ≤ n ∧ n < 1000) (h2 : xs.length * n.toNat ≤ 100000) (k : ∀ l H', M (pt l (.lst (List.replicate n.toNat xs).flatten) :: Rs) H' → Q (.ref l) H') : uMul (.ref p) (.int n) H Q :=
  .inr (.inr (.inl ⟨p, n, xs, rfl, rfl, h, by omega, by omega, Nat.le_trans h2 (by decide), fun l hl => k l _ (S.new hl)⟩))
/-- a while, by a word and a measure of the slots and the heap; the test is read for each turn -/
def WhW (c : TT) (tb : TS) (D : Ends) (σ : L2.St) (H : Hp) : Prop := ∃ W : Nat → L2.St → Hp → Prop, (∃ m, W m σ H) ∧ ∀ m σ H, W m σ H →
  c σ H fun b H1 => if b = true then ∃ N : L2.St → Hp → Prop, (∀ σ' H', N σ' H' → ∃ m', m' < m ∧ W m' σ' H') ∧ tb { D with nx := N, ct := N, bk := D.nx } σ H1 else D.nx σ H1
theorem g_while {c : TT} {tb : TS} (k : WhW c tb D σ H) : tWhile c tb D σ H := k
/-- N of a turn: W at some lesser measure -/
def WhN (W : Nat → L2.St → Hp → Prop) (m : Nat) : L2.St → Hp → Prop := fun σ H => ∃ m', m' < m ∧ W m' σ H
theorem wh_I {c : TT} {tb : TS} (W : Nat → L2.St → Hp → Prop) (m : Nat) (h0 : W m σ H)
    (hs : ∀ m σ H, W m σ H → c σ H fun b H1 => if b = true then ∃ N : L2.St → Hp → Prop, (∀ σ' H', N σ' H' → ∃ m', m' < m ∧ W m' σ' H') ∧ tb { D with nx := N, ct := N, bk := D.nx } σ H1 else D.nx σ H1) : WhW c tb D σ H := ⟨W, ⟨m, h0⟩, hs⟩
theorem wh_N {tb : TS} {m : Nat} {W : Nat → L2.St → Hp → Prop} {H1 : Hp} (k : tb { D with nx := WhN W m, ct := WhN W m, bk := D.nx } σ H1) : ∃ N : L2.St → Hp → Prop, (∀ σ' H', N σ' H' → ∃ m', m' < m ∧ W m' σ' H') ∧ tb { D with nx := N, ct := N, bk := D.nx } σ H1 := ⟨WhN W m, fun _ _ h => h, k⟩
end
end RC

namespace RC
open PySem PySem.Spec PyProof.Rows L2
local macro_rules | `(tactic| walk_at "S") => `(tactic| assumption)
local macro_rules | `(tactic| walk_at "hp") => `(tactic| first
  | assumption
  | exact M.got (by assumption) 0 rfl | exact M.got (by assumption) 1 rfl | exact M.got (by assumption) 2 rfl | exact M.got (by assumption) 3 rfl | exact M.got (by assumption) 4 rfl
  | exact M.got (by assumption) 5 rfl | exact M.got (by assumption) 6 rfl | exact M.got (by assumption) 7 rfl | exact M.got (by assumption) 8 rfl
  | exact M.gotF (by assumption) 0 rfl | exact M.gotF (by assumption) 1 rfl | exact M.gotF (by assumption) 2 rfl | exact M.gotF (by assumption) 3 rfl | exact M.gotF (by assumption) 4 rfl
  | exact M.gotF (by assumption) 5 rfl | exact M.gotF (by assumption) 6 rfl | exact M.gotF (by assumption) 7 rfl | exact M.gotF (by assumption) 8 rfl)
local macro_rules | `(tactic| walk_at "sl") => `(tactic| first
  | assumption
  | exact SqL.of (by walk_at "hp")
  | exact M.gotR (by assumption) 0 rfl | exact M.gotR (by assumption) 1 rfl | exact M.gotR (by assumption) 2 rfl | exact M.gotR (by assumption) 3 rfl)
local macro_rules | `(tactic| walk_at "mul") => `(tactic| first
  | exact Or.inl (Or.inr ⟨by decide, by decide⟩) | exact Or.inl (Or.inl ⟨by decide, by decide⟩) | exact Or.inl (Or.inr ⟨by omega, by omega⟩) | exact Or.inl (Or.inl ⟨by omega, by omega⟩))
local macro_rules | `(tactic| walk_at "sq") => `(tactic| first | assumption | exact SqT.of (by walk_at "hp"))
local macro_rules | `(tactic| walk_at "sts") => `(tactic| first
  | with_reducible refine g_asg ?_
  | with_reducible refine g_asgX ?_
  | with_reducible refine g_drop ?_
  | with_reducible refine g_ret ?_
  | with_reducible refine g_retN ?_
  | with_reducible refine g_if ?_
  | with_reducible refine g_next ?_
  | with_reducible refine g_bk ?_
  | with_reducible refine g_ct ?_
  | with_reducible refine g_augS ?_
  | with_reducible refine g_for ?_
  | with_reducible refine g_while ?_
  | with_reducible refine g_par ?_
  | ((with_reducible refine' g_aug ?hh ?kk); (case hh => exact rfl)))
local macro_rules | `(tactic| walk_at "ev1") => `(tactic| first
  | with_reducible refine g_rt ?_
  | with_reducible refine g_lc ?_
  | with_reducible refine g_iList ?_
  | with_reducible refine g_iRng1 ?_
  | with_reducible refine g_iRev ?_
  | with_reducible refine g_yes ?_
  | ((with_reducible refine' g_wipe ?hh ?kk); (case hh => exact rfl))
  | with_reducible refine g_name ?_
  | ((with_reducible refine' g_var ?hh ?kk); (case hh => exact rfl))
  | with_reducible refine g_c ?_
  | with_reducible refine g_op ?_
  | with_reducible refine g_un ?_
  | with_reducible refine g_nil ?_
  | with_reducible refine g_cons ?_
  | with_reducible refine g_cb ?_
  | with_reducible refine g_call ?_
  | with_reducible refine g_lst ?_
  | with_reducible refine g_tup ?_
  | with_reducible refine g_test ?_
  | with_reducible refine g_B ?_
  | with_reducible refine g_bl ?_
  | with_reducible refine g_int ?_
  | with_reducible refine g_and ?_
  | with_reducible refine g_or ?_
  | with_reducible refine g_not ?_
  | with_reducible refine g_andV ?_
  | with_reducible refine g_orV ?_
  | with_reducible refine g_notV ?_
  | with_reducible refine g_ifE ?_
  | with_reducible refine g_chain ?_
  | with_reducible refine g_sub ?_
  | with_reducible refine g_sl ?_
  | with_reducible refine g_noPart ?_
  | with_reducible refine g_part ?_
  | with_reducible refine g_rev ?_
  | with_reducible refine g_bm ?_
  | with_reducible refine g_bm0 ?_
  | with_reducible refine v_add ?_
  | with_reducible refine v_sub ?_
  | with_reducible refine v_iadd ?_
  | with_reducible refine v_isub ?_
  | with_reducible refine v_lt ?_
  | with_reducible refine v_le ?_
  | with_reducible refine v_gt ?_
  | with_reducible refine v_ge ?_
  | with_reducible refine v_eqI ?_
  | with_reducible refine v_neI ?_
  | with_reducible refine v_eqS ?_
  | with_reducible refine v_eqB ?_
  | with_reducible refine v_neB ?_
  | ((with_reducible refine' v_mod ?hh ?kk); (case hh => first | decide | omega))
  | ((with_reducible refine' v_mul ?hh ?kk); (case hh => walk_at "mul"))
  | ((with_reducible refine' v_imul ?hh ?kk); (case hh => first | exact Or.inr ⟨by decide, by decide⟩ | exact Or.inl ⟨by decide, by decide⟩ | exact Or.inr ⟨by omega, by omega⟩ | exact Or.inl ⟨by omega, by omega⟩))
  | ((with_reducible refine' v_div ?hh ?kk); (case hh => first | decide | exact ⟨by omega, by omega⟩))
  | ((with_reducible refine' v_idiv ?hh ?kk); (case hh => first | exact ⟨by decide, by decide⟩ | exact ⟨by omega, by omega⟩))
  | ((with_reducible refine' v_ixL ?hs ?hh ?kk); (case hs => walk_at "sl"); (case hh => exact rfl))
  | ((with_reducible refine' v_ixT ?hs ?hh ?kk); (case hs => walk_at "sq"); (case hh => exact rfl))
  | ((with_reducible refine' v_get ?hs ?h0 ?hh ?kk); (case hs => walk_at "sl"); (case h0 => decide); (case hh => exact rfl))
  | ((with_reducible refine' v_lenL ?hs ?kk); (case hs => walk_at "sl"))
  | ((with_reducible refine' v_pow ?hh ?kk); (case hh => decide +kernel))
  | with_reducible refine v_abs ?_
  | with_reducible refine v_neg ?_
  | with_reducible refine v_isN ?_
  | with_reducible refine v_notN ?_
  | with_reducible refine v_two ?_
  | with_reducible refine g_callN ?_
  | ((with_reducible refine' v_lens ?h1 ?h2 ?kk); (case h1 => exact rfl); (case h2 => exact rfl))
  | ((with_reducible refine' g_gtup ?h1 ?h2 ?kk); (case h1 => walk_at "sq"); (case h2 => exact rfl))
  | with_reducible refine g_gcons ?_
  | with_reducible refine g_gnil ?_
  | with_reducible refine v_ifNT ?_
  | with_reducible refine v_ifNF ?_
  | with_reducible refine v_ifT ?_
  | with_reducible refine v_ifF ?_)
local macro_rules | `(tactic| walk_at "ev") => `(tactic| repeat walk_at "ev1")
local macro_rules | `(tactic| walk_at "nx") => `(tactic| repeat with_reducible refine g_nx ?_)
local macro_rules | `(tactic| walk_at "st") => `(tactic| ((repeat first | with_reducible refine g_nx ?_ | with_reducible refine g_seq ?_); walk_at "sts"; walk_at "ev"))
local macro_rules | `(tactic| walk_at "go1") => `(tactic| first | with_reducible refine g_nx ?_ | with_reducible refine g_seq ?_ | walk_at "sts" | walk_at "ev1")
local macro_rules | `(tactic| walk_at "go") => `(tactic| repeat walk_at "go1")
local macro_rules | `(tactic| walk_at "sub1") => `(tactic| first
  | exact Sub.refl _ | exact Sub.nil _
  | refine Sub.cons 0 rfl ?_ | refine Sub.cons 1 rfl ?_ | refine Sub.cons 2 rfl ?_ | refine Sub.cons 3 rfl ?_ | refine Sub.cons 4 rfl ?_ | refine Sub.cons 5 rfl ?_ | refine Sub.cons 6 rfl ?_ | refine Sub.cons 7 rfl ?_
  | refine Sub.cons 8 rfl ?_ | refine Sub.cons 9 rfl ?_ | refine Sub.cons 10 rfl ?_ | refine Sub.cons 11 rfl ?_ | refine Sub.cons 12 rfl ?_ | refine Sub.cons 13 rfl ?_ | refine Sub.cons 14 rfl ?_ | refine Sub.cons 15 rfl ?_ | refine Sub.tl ?_)
local macro_rules | `(tactic| walk_at "sub") => `(tactic| (refine M.sub ?_ (by assumption); repeat walk_at "sub1"))
def top (i : Nat) : Stmt := PySem.Challenge.pw_restorechain_k15_signs_read_back.main.body.getD i (.Pass ⟨0, 0, 0, 0⟩)
abbrev s_l_bag : Stmt := top 11
abbrev s_l_take : Stmt := top 12
abbrev s_l_signs : Stmt := top 17
abbrev s_l_sum : Stmt := top 15
abbrev s_l_made : Stmt := top 18
abbrev s_l_number : Stmt := top 19
abbrev s_is_whole : Stmt := top 6
abbrev s_is_seal : Stmt := top 7
abbrev s_signs_of : Stmt := top 9
abbrev s_l_alike : Stmt := top 13
abbrev s_l_back : Stmt := top 16
abbrev s_law : Stmt := top 20
structure Txt (K : PySem.W.Frag) (mg : Str → Option Value) : Prop where
  F_l_bag : FunD K "_law_bag" "_law_bag" (defArgs s_l_bag) (defBody s_l_bag) (defScope s_l_bag) [] [] (He.ga K "_law_bag") (fdOf K (He.ga K "_law_bag"))
  g_l_bag : mg "_law_bag" = some (.ref (He.ga K "_law_bag"))
  F_l_take : FunD K "_law_take" "_law_take" (defArgs s_l_take) (defBody s_l_take) (defScope s_l_take) [] [] (He.ga K "_law_take") (fdOf K (He.ga K "_law_take"))
  g_l_take : mg "_law_take" = some (.ref (He.ga K "_law_take"))
  F_l_signs : FunD K "_law_signs" "_law_signs" (defArgs s_l_signs) (defBody s_l_signs) (defScope s_l_signs) [] [] (He.ga K "_law_signs") (fdOf K (He.ga K "_law_signs"))
  g_l_signs : mg "_law_signs" = some (.ref (He.ga K "_law_signs"))
  F_l_sum : FunD K "_law_sum" "_law_sum" (defArgs s_l_sum) (defBody s_l_sum) (defScope s_l_sum) [] [] (He.ga K "_law_sum") (fdOf K (He.ga K "_law_sum"))
  g_l_sum : mg "_law_sum" = some (.ref (He.ga K "_law_sum"))
  F_l_made : FunD K "_law_made" "_law_made" (defArgs s_l_made) (defBody s_l_made) (defScope s_l_made) [] [] (He.ga K "_law_made") (fdOf K (He.ga K "_law_made"))
  g_l_made : mg "_law_made" = some (.ref (He.ga K "_law_made"))
  F_l_number : FunD K "_law_number" "_law_number" (defArgs s_l_number) (defBody s_l_number) (defScope s_l_number) [] [] (He.ga K "_law_number") (fdOf K (He.ga K "_law_number"))
  g_l_number : mg "_law_number" = some (.ref (He.ga K "_law_number"))
  F_is_whole : FunD K "is_whole" "is_whole" (defArgs s_is_whole) (defBody s_is_whole) (defScope s_is_whole) [] [] (He.ga K "is_whole") (fdOf K (He.ga K "is_whole"))
  g_is_whole : mg "is_whole" = some (.ref (He.ga K "is_whole"))
  F_is_seal : FunD K "is_seal" "is_seal" (defArgs s_is_seal) (defBody s_is_seal) (defScope s_is_seal) [] [] (He.ga K "is_seal") (fdOf K (He.ga K "is_seal"))
  g_is_seal : mg "is_seal" = some (.ref (He.ga K "is_seal"))
  F_signs_of : FunD K "signs_of" "signs_of" (defArgs s_signs_of) (defBody s_signs_of) (defScope s_signs_of) [] [] (He.ga K "signs_of") (fdOf K (He.ga K "signs_of"))
  g_signs_of : mg "signs_of" = some (.ref (He.ga K "signs_of"))
  F_l_alike : FunD K "_law_alike" "_law_alike" (defArgs s_l_alike) (defBody s_l_alike) (defScope s_l_alike) [] [] (He.ga K "_law_alike") (fdOf K (He.ga K "_law_alike"))
  g_l_alike : mg "_law_alike" = some (.ref (He.ga K "_law_alike"))
  F_l_back : FunD K "_law_back" "_law_back" (defArgs s_l_back) (defBody s_l_back) (defScope s_l_back) [] [] (He.ga K "_law_back") (fdOf K (He.ga K "_law_back"))
  g_l_back : mg "_law_back" = some (.ref (He.ga K "_law_back"))
  F_law : FunD K "law" "law" (defArgs s_law) (defBody s_law) (defScope s_law) [] [] (He.ga K "law") (fdOf K (He.ga K "law"))
  g_law : mg "law" = some (.ref (He.ga K "law"))
  c_MOST_PIECE : ∃ t, mg "MOST_PIECE" = some (.int 16 t)
  c_BASE : ∃ t, mg "BASE" = some (.int 1001 t)
  b_abs : mg "abs" = none
  b_len : mg "len" = none
  b_range : mg "range" = none
  b_int : mg "int" = none
  b_isinstance : mg "isinstance" = none
  b_bool : mg "bool" = none
  b_repr : mg "repr" = none
abbrev bagO (x y z : Int) (cl : Addr) : HO := .lst [.int x, .int y, .int z, .ref cl]
structure BagOk (x y z : Int) (ns : List Int) : Prop where
  x0 : 0 ≤ x
  y0 : 0 ≤ y
  y1 : y < 2147483647
  z0 : 0 ≤ z
  nn : ∀ n ∈ ns, (0 : Int) ≤ n
def bagR (bag : Addr) : Res := exi fun (b : Int × Int × Int × Addr × List Int) => prp (BagOk b.1 b.2.1 b.2.2.1 b.2.2.2.2) (sp2 (pt bag (bagO b.1 b.2.1 b.2.2.1 b.2.2.2.1)) (pt b.2.2.2.1 (.lst (b.2.2.2.2.map V.int))))
theorem bag_open {bag : Addr} {Rs : List Res} {H : Hp} (S : M (bagR bag :: Rs) H) : ∃ x y z cl ns, BagOk x y z ns ∧ M (pt bag (bagO x y z cl) :: pt cl (.lst (ns.map V.int)) :: Rs) H := by
  obtain ⟨⟨x, y, z, cl, ns⟩, S⟩ := S.ex
  obtain ⟨ok, S⟩ := S.pr
  exact ⟨x, y, z, cl, ns, ok, S.sp⟩
theorem bag_close {bag cl : Addr} {x y z : Int} {ns : List Int} {Rs : List Res} {H : Hp} (ok : BagOk x y z ns) (S : M (pt bag (bagO x y z cl) :: pt cl (.lst (ns.map V.int)) :: Rs) H) : M (bagR bag :: Rs) H :=
  M.ex' (T := fun (b : Int × Int × Int × Addr × List Int) => prp (BagOk b.1 b.2.1 b.2.2.1 b.2.2.2.2) (sp2 (pt bag (bagO b.1 b.2.1 b.2.2.1 b.2.2.2.1)) (pt b.2.2.2.1 (.lst (b.2.2.2.2.map V.int))))) (x, y, z, cl, ns) (M.pr' ok S.sp')
def sp_l_take (K : PySem.W.Frag) : Sp := fun vs H Q _ => ∃ (Rs : List Res) (bag : Addr) (many : Int), vs = [.ref bag, .int many] ∧ M (bagR bag :: Rs) H ∧ 0 < many ∧ many < 2 ^ 62 ∧
  ∀ v H', 0 ≤ v → v < many → M (bagR bag :: Rs) H' → Q (.int v) H'
abbrev t_l_take_6 (K : PySem.W.Frag) : TS := (tSeq (tIfS (tTest (tOp uGe (tVar 4) (tC (.int 1000000000000000000)))) (tAsg (tVar 4) (gSub (tVar 0) (tC (.int 0)) uSet)) tNext)
  (tAsg (tOp uMod (tOp (uAdd K) (tOp (uAdd K) (tOp uMul (tOp (uIx K) (tVar 0) (tC (.int 1))) (tC (.int 48271))) (tOp uMod (tVar 4) (tC (.int 2147483647)))) (tOp uMul (tC (.int 7919)) (tOp (uIx K) (tVar 0) (tC (.int 2))))) (tC (.int 2147483647))) (gSub (tVar 0) (tC (.int 1)) uSet)))
abbrev t_l_take_5 (K : PySem.W.Frag) : TS := (tSeq (tAugS (tVar 0) (tC (.int 2)) (tC (.int 1)) (gIx K) iAdd uSet)
  (t_l_take_6 K))
abbrev t_l_take_3 (K : PySem.W.Frag) : TS := (tSeq (tIfS (tTest (tOp uLt (tOp (uIx K) (tVar 0) (tC (.int 2))) (tCB (uLen K) (tCons (tOp (uIx K) (tVar 0) (tC (.int 3))) tNil)))) (tAsg (tOp (uIx K) (tOp (uIx K) (tVar 0) (tC (.int 3))) (tOp (uIx K) (tVar 0) (tC (.int 2)))) (gName 4)) tNext)
  (t_l_take_5 K))
abbrev t_l_take_2 (K : PySem.W.Frag) : TS := (tSeq (tAsg (tC (.int 0)) (gName 4))
  (t_l_take_3 K))
abbrev t_l_take_11 (K : PySem.W.Frag) : TS := (tSeq (tAsg (tOp uDiv (tOp (uIx K) (tVar 0) (tC (.int 0))) (tVar 1)) (gSub (tVar 0) (tC (.int 0)) uSet))
  (tRet (tVar 5)))
abbrev t_l_take_10 (K : PySem.W.Frag) : TS := (tSeq (tAsg (tOp uMod (tOp (uIx K) (tVar 0) (tC (.int 0))) (tVar 1)) (gName 5))
  (t_l_take_11 K))
abbrev t_l_take_15 (K : PySem.W.Frag) : TS := (tSeq (tIfS (tTest (tOp uGt (tVar 1) (tC (.int 1000000)))) (tRet (tOp uMod (tOp (uAdd K) (tOp uMul (tVar 3) (tC (.int 1000000007))) (tVar 2)) (tVar 1))) tNext)
  (tRet (tOp uMod (tOp uDiv (tVar 3) (tC (.int 7))) (tVar 1))))
abbrev t_l_take_14 (K : PySem.W.Frag) : TS := (tSeq (tAsg (tOp uMod (tOp uMul (tOp uMod (tOp uMul (tVar 2) (tVar 2)) (tC (.int 998244353))) (tC (.int 30011))) (tC (.int 998244353))) (gName 3))
  (t_l_take_15 K))
abbrev t_l_take_13 (K : PySem.W.Frag) : TS := (tSeq (tAsg (tOp uMod (tOp uMul (tOp (uAdd K) (tOp (uIx K) (tVar 0) (tC (.int 1))) (tC (.int 1))) (tC (.int 39373))) (tC (.int 1000000007))) (gName 2))
  (t_l_take_14 K))
abbrev t_l_take_9 (K : PySem.W.Frag) : TS := (tSeq (tIfS (tTest (tOp uGt (tOp (uIx K) (tVar 0) (tC (.int 0))) (tC (.int 0)))) (t_l_take_10 K) tNext)
  (t_l_take_13 K))
abbrev t_l_take_1 (K : PySem.W.Frag) : TS := (tSeq (tIfS (tTest (tOp (uEq K) (tOp (uIx K) (tVar 0) (tC (.int 0))) (tC (.int 0)))) (t_l_take_2 K) tNext)
  (t_l_take_9 K))
abbrev t_l_take (K : PySem.W.Frag) : TS := (t_l_take_1 K)
theorem take_tail {K : PySem.W.Frag} {Q : VK} {Rs : List Res} {bag cl : Addr} {many x y z : Int} {ns : List Int} {c : Option V} {H : Hp} (m0 : 0 < many) (m1 : many < 2 ^ 62) (ok : BagOk x y z ns)
    (k : ∀ v H', 0 ≤ v → v < many → M (bagR bag :: Rs) H' → Q (.int v) H') (S : M (pt bag (bagO x y z cl) :: pt cl (.lst (ns.map V.int)) :: Rs) H) :
    t_l_take_9 K { nx := fun _ H' => Q .non H', rt := Q } [some (V.ref bag), some (V.int many), none, none, c, none] H := by
  have x0 := ok.x0
  have y0 := ok.y0
  have y1 := ok.y1
  walk_at "go"
  refine v_ifD (fun h => ?_) (fun h => ?_)
  · walk_at "go"
    refine v_set S 0 rfl rfl fun H' S' => ?_
    have S2 : M (pt bag (bagO (x / many) y z cl) :: pt cl (.lst (ns.map V.int)) :: Rs) H' := S'
    walk_at "go"
    exact k _ _ (Int.emod_nonneg _ (by omega)) (Int.emod_lt_of_pos _ m0) (bag_close ⟨Int.ediv_nonneg x0 (Int.le_of_lt m0), y0, y1, ok.z0, ok.nn⟩ S2)
  · walk_at "go"
    have f0 := Int.emod_nonneg ((y + 1) * 39373) (show (1000000007 : Int) ≠ 0 by decide)
    have f1 := Int.emod_lt_of_pos ((y + 1) * 39373) (show (0 : Int) < 1000000007 by decide)
    walk_at "go"
    have g0 := Int.emod_nonneg ((y + 1) * 39373 % 1000000007 * ((y + 1) * 39373 % 1000000007) % 998244353 * 30011) (show (998244353 : Int) ≠ 0 by decide)
    have g1 := Int.emod_lt_of_pos ((y + 1) * 39373 % 1000000007 * ((y + 1) * 39373 % 1000000007) % 998244353 * 30011) (show (0 : Int) < 998244353 by decide)
    refine v_ifD (fun h => ?_) (fun h => ?_)
    · walk_at "go"
      exact k _ _ (Int.emod_nonneg _ (by omega)) (Int.emod_lt_of_pos _ m0) (bag_close ok S)
    · walk_at "go"
      exact k _ _ (Int.emod_nonneg _ (by omega)) (Int.emod_lt_of_pos _ m0) (bag_close ok S)
theorem take_mid {K : PySem.W.Frag} {Q : VK} {Rs : List Res} {bag cl : Addr} {many y z c : Int} {ns : List Int} {H : Hp} (m0 : 0 < many) (m1 : many < 2 ^ 62) (ok : BagOk 0 y z ns) (c0 : 0 ≤ c)
    (k : ∀ v H', 0 ≤ v → v < many → M (bagR bag :: Rs) H' → Q (.int v) H') (S : M (pt bag (bagO 0 y z cl) :: pt cl (.lst (ns.map V.int)) :: Rs) H) :
    t_l_take_5 K { nx := t_l_take_9 K { nx := fun _ H' => Q .non H', rt := Q }, rt := Q } [some (V.ref bag), some (V.int many), none, none, some (.int c), none] H := by
  have y0 := ok.y0
  have y1 := ok.y1
  have z0 := ok.z0
  have fin : ∀ {x : Int} {H' : Hp}, 0 ≤ x → M (pt bag (bagO x y (z + 1) cl) :: pt cl (.lst (ns.map V.int)) :: Rs) H' →
      tAsg (tOp uMod (tOp (uAdd K) (tOp (uAdd K) (tOp uMul (tOp (uIx K) (tVar 0) (tC (.int 1))) (tC (.int 48271))) (tOp uMod (tVar 4) (tC (.int 2147483647)))) (tOp uMul (tC (.int 7919)) (tOp (uIx K) (tVar 0) (tC (.int 2))))) (tC (.int 2147483647))) (gSub (tVar 0) (tC (.int 1)) uSet)
        { nx := t_l_take_9 K { nx := fun _ H' => Q .non H', rt := Q }, rt := Q } [some (V.ref bag), some (V.int many), none, none, some (.int c), none] H' := by
    intro x H' x0 S
    walk_at "go"
    refine v_set S 0 rfl rfl fun H2 S' => ?_
    have S2 : M (pt bag (bagO x ((y * 48271 + c % 2147483647 + 7919 * (z + 1)) % 2147483647) (z + 1) cl) :: pt cl (.lst (ns.map V.int)) :: Rs) H2 := S'
    walk_at "nx"
    exact take_tail m0 m1 ⟨x0, Int.emod_nonneg _ (by decide), Int.emod_lt_of_pos _ (by decide), by omega, ok.nn⟩ k S2
  walk_at "go"
  refine v_set S 0 rfl rfl fun H' S' => ?_
  have S2 : M (pt bag (bagO 0 y (z + 1) cl) :: pt cl (.lst (ns.map V.int)) :: Rs) H' := S'
  walk_at "go"
  refine v_ifD (fun h => ?_) (fun h => ?_)
  · walk_at "go"
    refine v_set S2 0 rfl rfl fun H2 S' => ?_
    have S3 : M (pt bag (bagO c y (z + 1) cl) :: pt cl (.lst (ns.map V.int)) :: Rs) H2 := S'
    exact fin c0 S3
  · walk_at "st"
    exact fin (Int.le_refl 0) S2
theorem len_l_take {K : PySem.W.Frag} (vs : List V) (H : Hp) (Q : VK) (E : XK) (h : sp_l_take K vs H Q E) : vs.length = 2 := by
  obtain ⟨Rs, bag, many, rfl, _⟩ := h
  rfl
theorem pure_l_take {K : PySem.W.Frag} (vs : List V) (H : Hp) (Q : VK) (E : XK) (h : sp_l_take K vs H Q E) : t_l_take K { nx := fun _ H' => Q .non H', rt := Q } (start ["_law_bag_here", "_law_many", "_law_first", "_law_second", "_law_cell", "_law_value"] vs) H := by
  obtain ⟨Rs, bag, many, rfl, S, m0, m1, k⟩ := h
  obtain ⟨x, y, z, cl, ns, ok, S⟩ := bag_open S
  show t_l_take K _ [some (V.ref bag), some (V.int many), none, none, none, none] H
  walk_at "go"
  refine v_ifD (fun h => ?_) (fun h => ?_)
  · subst h
    walk_at "go"
    refine v_ifD (fun h => ?_) (fun h => ?_)
    · rw [List.length_map] at h
      walk_at "go"
      refine v_ixL (SqL.of (S.got 1 rfl)) (atI_ints ok.z0 h) ?_
      walk_at "nx"
      refine take_mid m0 m1 ok ?_ k S
      rw [List.getD_eq_getElem?_getD]
      cases e : ns[z.toNat]? with
      | none => exact Int.le_refl 0
      | some n => exact ok.nn n (List.mem_of_getElem? e)
    · walk_at "st"
      exact take_mid m0 m1 ok (Int.le_refl 0) k S
  · walk_at "st"
    exact take_tail m0 m1 ok k S
def sp_l_bag (K : PySem.W.Frag) : Sp := fun vs H Q _ => ∃ (Rs : List Res) (a : Addr) (ns : List Int), vs = [.ref a] ∧ M Rs H ∧ Ent Rs (fun H => SqL K H a (ns.map V.int)) ∧ ns.length ≤ 63 ∧ ∀ bag H', M (bagR bag :: Rs) H' → Q (.ref bag) H'
theorem len_l_bag {K : PySem.W.Frag} (vs : List V) (H : Hp) (Q : VK) (E : XK) (h : sp_l_bag K vs H Q E) : vs.length = 1 := by
  obtain ⟨Rs, a, ns, rfl, _⟩ := h
  rfl
abbrev t_l_bag (K : PySem.W.Frag) : TS := (tRet (tLst (tCons (tC (.int 0)) (tCons (tC (.int 1234567891)) (tCons (tC (.int 0)) (tCons (tLc (iList K (tSl (uSl K) (tVar 0) tNoPart (tPart (tC (.int 63))))) (gName 1) tYes (tCB rAbs (tCons (tVar 1) tNil)) [1]) tNil))))))
theorem pure_l_bag {K : PySem.W.Frag} (vs : List V) (H : Hp) (Q : VK) (E : XK) (h : sp_l_bag K vs H Q E) : t_l_bag K { nx := fun _ H' => Q .non H', rt := Q } (start ["_law_script", "_law_cell"] vs) H := by
  obtain ⟨Rs, a, ns, rfl, S, hS, hl, k⟩ := h
  show t_l_bag K _ [some (V.ref a), none] H
  walk_at "go"
  refine v_slL S (hS H S) fun q H1 S1 => ?_
  rw [show cutV (ns.map V.int) none (some 63) = (ns.map V.int).take 63 from cut_to _ 63, ← List.map_take] at S1
  refine v_itL (SqL.of (S1.got 0 rfl)) ?_
  refine lc_W walk_list S1 (fun i acc => ∃ ms : List Int, acc = ms.map V.int ∧ ms.length ≤ i ∧ ∀ n ∈ ms, 0 ≤ n) ⟨[], rfl, Nat.le_refl _, (fun _ h => nomatch h)⟩ (fun H S => SqL.of (S.got 0 rfl)) ?_ ?_
  · intro i x acc E H H' hi hp S y
    obtain ⟨rfl, hx⟩ := y
    obtain ⟨n, _, rfl⟩ := ints_get hx
    obtain ⟨ms, rfl, hm, hn⟩ := hp
    walk_at "go"
    have hz : i < 63 := by
      rw [List.length_map, List.length_take] at hi
      omega
    refine lc_next S 0 rfl (by rw [List.length_map]; omega) fun H' S' => ?_
    refine ⟨_, ⟨ms ++ [if n < 0 then -n else n], by simp, by simp; omega, fun m h => ?_⟩, S'⟩
    rcases List.mem_append.mp h with h | h
    · exact hn m h
    · cases List.mem_singleton.mp h
      split <;> omega
  · rintro E acc H ⟨ms, rfl, _, hn⟩ S
    walk_at "go"
    refine v_lst S (by simp) fun p H' S' => ?_
    walk_at "go"
    have S2 : M (pt p (bagO 0 1234567891 0 E) :: pt E (.lst (ms.map V.int)) :: Rs) H' := (S'.at 2 rfl).tl
    exact k p H' (bag_close ⟨by decide, by decide, by decide, by decide, hn⟩ S2)
/-! ### data -/
structure Shw (d : PyData) : Prop where
  sh : d.showable = true
  cl : d.canLay0 = true
  dp : d.depth ≤ 60
  sz : d.shown.length ≤ sizeLine
theorem Shw.shaped {d : PyData} (h : Shw d) : SeqAt.shaped d = true := by
  unfold SeqAt.shaped
  rw [h.cl, decide_eq_true (Nat.le_trans h.dp (by decide))]
  rfl
theorem log_lt {n : Int} (h : n.natAbs < 2 ^ 1000) : n.natAbs.log2 < 1920 := by
  rcases Nat.eq_zero_or_pos n.natAbs with e | e
  · rw [e]
    decide
  · have h2 := (Nat.log2_lt (by omega)).mpr h
    omega
theorem Shw.int {n : Int} (h : n.natAbs < 2 ^ 1000) : Shw (.int n) := by
  have l := log_lt h
  refine ⟨by simpa [PyData.showable] using l, rfl, by simp [PyData.depth], ?_⟩
  simp only [PyData.shown]
  exact int_text_fits l
theorem dpAll_ints {K : PySem.W.Frag} {H : Hp} : ∀ ns : List Int, DpAll K H (ns.map V.int) (ns.map PyData.int)
  | [] => .nil
  | n :: r => .cons (.int n) (dpAll_ints r)
theorem dp_ints {K : PySem.W.Frag} {H : Hp} {a : Addr} {ns : List Int} (h : SqL K H a (ns.map V.int)) : Dp K H (.ref a) (.list (ns.map PyData.int)) := .lst h (dpAll_ints ns)
theorem canLayAll_ints : ∀ ns : List Int, PyData.canLayAll0 (ns.map PyData.int) = true
  | [] => by simp [PyData.canLayAll0]
  | n :: r => by simp [PyData.canLayAll0, PyData.canLay0, canLayAll_ints r]
theorem depthAll_ints : ∀ ns : List Int, PyData.depthAll (ns.map PyData.int) ≤ 1
  | [] => by simp [PyData.depthAll]
  | n :: r => by
    have := depthAll_ints r
    simp [PyData.depthAll, PyData.depth]
    omega
theorem shaped_ints (ns : List Int) : SeqAt.shaped (.list (ns.map PyData.int)) = true := by
  unfold SeqAt.shaped
  have := depthAll_ints ns
  simp [PyData.canLay0, canLayAll_ints, PyData.depth]
  omega
theorem eqvAll_ints : ∀ ns ms : List Int, PyData.eqvAll (ns.map PyData.int) (ms.map PyData.int) = decide (ns = ms)
  | [], [] => rfl
  | [], _ :: _ => rfl
  | _ :: _, [] => rfl
  | n :: r, m :: t => by
    show (PyData.eqv (.int n) (.int m) && PyData.eqvAll (r.map PyData.int) (t.map PyData.int)) = _
    rw [eqvAll_ints r t]
    by_cases h : n = m
    · subst h
      simp [PyData.eqv]
    · have : ¬ (n :: r = m :: t) := fun z => h (List.cons.inj z).1
      simp [PyData.eqv, h]
theorem eqv_ints (ns ms : List Int) : PyData.eqv (.list (ns.map PyData.int)) (.list (ms.map PyData.int)) = decide (ns = ms) := eqvAll_ints ns ms
/-- a list of so many signs -/
structure Signs (lo hi : Nat) (ns : List Int) : Prop where
  lo : lo ≤ ns.length
  hi : ns.length ≤ hi
  sg : ∀ n ∈ ns, 0 ≤ n ∧ n ≤ 999
/-- a draw -/
theorem u_take {K : PySem.W.Frag} {Rs : List Res} {H : Hp} {bag : Addr} {many : Int} {Q : VK} {E : XK} (S : M (bagR bag :: Rs) H) (h : 0 < many ∧ many < 2 ^ 62) (k : ∀ v H', 0 ≤ v → v < many → M (bagR bag :: Rs) H' → Q (.int v) H') :
    sp_l_take K ([.ref bag, .int many] ++ []) H Q E := ⟨Rs, bag, many, rfl, S, h.1, h.2, k⟩
def sp_l_signs (K : PySem.W.Frag) : Sp := fun vs H Q _ => ∃ (Rs : List Res) (bag : Addr), vs = [.ref bag] ∧ M (bagR bag :: Rs) H ∧
  ∀ p ns H', Signs 1 16 ns → M (bagR bag :: pt p (.lst (ns.map V.int)) :: Rs) H' → Q (.ref p) H'
def sp_l_alike (K : PySem.W.Frag) : Sp := fun vs H Q _ => ∃ (x y : V) (d : PyData), vs = [x, y] ∧ Dp K H x d ∧ Dp K H y d ∧ Shw d ∧ Q (.bl true) H
theorem len_l_alike {K : PySem.W.Frag} (vs : List V) (H : Hp) (Q : VK) (E : XK) (h : sp_l_alike K vs H Q E) : vs.length = 2 := by
  obtain ⟨x, y, d, rfl, _⟩ := h
  rfl
theorem u_alike {K : PySem.W.Frag} {H : Hp} {x y : V} {d : PyData} {Q : VK} {E : XK} (h1 : Dp K H x d) (h2 : Dp K H y d) (sw : Shw d) (k : Q (.bl true) H) : sp_l_alike K ([x, y] ++ []) H Q E := ⟨x, y, d, rfl, h1, h2, sw, k⟩
abbrev t_l_alike (K : PySem.W.Frag) : TS := (tRet (tAndV (tOp (uEq K) (tVar 0) (tVar 1)) (tOp (uEq K) (tCB (rRepr K) (tCons (tVar 0) tNil)) (tCB (rRepr K) (tCons (tVar 1) tNil)))))
theorem pure_l_alike {K : PySem.W.Frag} (vs : List V) (H : Hp) (Q : VK) (E : XK) (h : sp_l_alike K vs H Q E) : t_l_alike K { nx := fun _ H' => Q .non H', rt := Q } (start ["_law_found", "_law_due"] vs) H := by
  obtain ⟨x, y, d, rfl, h1, h2, sw, k⟩ := h
  show t_l_alike K _ [some x, some y] H
  walk_at "go"
  refine v_eqD h1 h2 sw.shaped sw.shaped ?_
  rw [SeqAt.eqv_refl d sw.cl]
  walk_at "go"
  refine ⟨x, d, rfl, h1, sw.sh, sw.cl, sw.dp, sw.sz, ?_⟩
  walk_at "go"
  refine ⟨y, d, rfl, h2, sw.sh, sw.cl, sw.dp, sw.sz, ?_⟩
  walk_at "go"
  rw [decide_eq_true rfl]
  exact k
/-! ### lists that stand for ever, owned lists -/
def fzs (ls : List (Addr × List Int)) : Res := ⟨fun F l => l = [] ∧ ∀ q ∈ ls, F q.1 = some (.lst (q.2.map V.int)), fun _ _ _ e h => ⟨h.1, fun q hq => e _ _ (h.2 q hq)⟩⟩
theorem M.fzs0 {Rs : List Res} {H : Hp} (h : M Rs H) : M (fzs [] :: Rs) H := by
  obtain ⟨F, L, a, m⟩ := h
  exact ⟨F, L, ⟨[], L, rfl, ⟨rfl, (fun _ h => nomatch h)⟩, a⟩, m⟩
theorem M.fzs1 {Rs : List Res} {H : Hp} {p : Addr} {ns : List Int} {ls : List (Addr × List Int)} (h : M (pt p (.lst (ns.map V.int)) :: fzs ls :: Rs) H) : M (fzs (ls ++ [(p, ns)]) :: Rs) H := by
  obtain ⟨F, L, ⟨l1, l2, rfl, ⟨rfl, e⟩, l3, l4, rfl, ⟨rfl, f⟩, b⟩, m⟩ := h.fix
  refine ⟨F, l4, ⟨[], l4, rfl, ⟨rfl, fun q hq => ?_⟩, b⟩, m⟩
  rcases List.mem_append.mp hq with hq | hq
  · exact f q hq
  · cases List.mem_singleton.mp hq
    exact e
theorem M.gotS {Rs : List Res} {H : Hp} {ls : List (Addr × List Int)} (h : M Rs H) (i : Nat) (e : Rs[i]? = some (fzs ls)) {q : Addr × List Int} (hq : q ∈ ls) : H q.1 = some (.lst (q.2.map V.int)) := by
  obtain ⟨F, L, ⟨l1, l2, rfl, ⟨_, f⟩, b⟩, m⟩ := h.at i e
  exact m.ex _ _ (f q hq)
def rfs (ls : List (Addr × List Int)) : List V := ls.map fun q => V.ref q.1
theorem rfs_len (ls : List (Addr × List Int)) : (rfs ls).length = ls.length := by simp [rfs]
theorem rfs_snoc (ls : List (Addr × List Int)) (p : Addr) (ns : List Int) : rfs (ls ++ [(p, ns)]) = rfs ls ++ [V.ref p] := by simp [rfs]
theorem rfs_get {ls : List (Addr × List Int)} {i : Nat} {x : V} (h : (rfs ls)[i]? = some x) : ∃ q, ls[i]? = some q ∧ x = .ref q.1 := by
  unfold rfs at h
  rw [List.getElem?_map] at h
  cases e : ls[i]? with
  | none =>
    rw [e] at h
    cases h
  | some q =>
    rw [e] at h
    exact ⟨q, rfl, (Option.some.inj h).symm⟩
theorem atI_rfs {ls : List (Addr × List Int)} {i : Int} (h0 : 0 ≤ i) (h1 : i < ls.length) : ∃ q, ls[i.toNat]? = some q ∧ q ∈ ls ∧ atI (rfs ls) i = some (.ref q.1) := by
  have hl : i.toNat < ls.length := by omega
  refine ⟨ls[i.toNat], List.getElem?_eq_getElem hl, List.getElem_mem hl, atI_int h0 ?_⟩
  unfold rfs
  rw [List.getElem?_map, List.getElem?_eq_getElem hl]
  rfl
/-- owned lists of ints -/
def cls (ls : List (Addr × List Int)) : List Cell := ls.map fun q => (q.1, HO.lst (q.2.map V.int))
def pts (ls : List (Addr × List Int)) : Res := ⟨fun _ l => l = cls ls, fun _ _ _ _ h => h⟩
theorem M.pts0 {Rs : List Res} {H : Hp} (h : M Rs H) : M (pts [] :: Rs) H := by
  obtain ⟨F, L, a, m⟩ := h
  exact ⟨F, L, ⟨[], L, rfl, rfl, a⟩, m⟩
/-- one of them by itself -/
theorem M.ptsO {Rs : List Res} {H : Hp} {p : Addr} {ns : List Int} {l1 l2 : List (Addr × List Int)} (h : M (pts (l1 ++ (p, ns) :: l2) :: Rs) H) : M (pt p (.lst (ns.map V.int)) :: pts (l1 ++ l2) :: Rs) H := by
  obtain ⟨F, L, ⟨a1, a2, rfl, rfl, b⟩, m⟩ := h
  have e : (cls (l1 ++ (p, ns) :: l2)).Perm ((p, HO.lst (ns.map V.int)) :: cls (l1 ++ l2)) := by
    unfold cls
    rw [List.map_append, List.map_cons, List.map_append]
    exact List.perm_middle
  exact ⟨F, _, ⟨[(p, .lst (ns.map V.int))], cls (l1 ++ l2) ++ a2, rfl, rfl, cls (l1 ++ l2), a2, rfl, rfl, b⟩, m.perm (e.append_right a2)⟩
theorem M.ptsC {Rs : List Res} {H : Hp} {p : Addr} {ns : List Int} {l1 l2 : List (Addr × List Int)} (h : M (pt p (.lst (ns.map V.int)) :: pts (l1 ++ l2) :: Rs) H) : M (pts (l1 ++ (p, ns) :: l2) :: Rs) H := by
  obtain ⟨F, L, ⟨a1, a2, rfl, rfl, a3, a4, rfl, rfl, b⟩, m⟩ := h
  have e : (cls (l1 ++ (p, ns) :: l2)).Perm ((p, HO.lst (ns.map V.int)) :: cls (l1 ++ l2)) := by
    unfold cls
    rw [List.map_append, List.map_cons, List.map_append]
    exact List.perm_middle
  exact ⟨F, _, ⟨cls (l1 ++ (p, ns) :: l2), a4, rfl, rfl, b⟩, m.perm (e.append_right a4).symm⟩
theorem M.ptsS {Rs : List Res} {H : Hp} {p : Addr} {ns : List Int} {ls : List (Addr × List Int)} (h : M (pt p (.lst (ns.map V.int)) :: pts ls :: Rs) H) : M (pts (ls ++ [(p, ns)]) :: Rs) H :=
  M.ptsC (l1 := ls) (l2 := []) (by rw [List.append_nil]; exact h)
theorem M.ptsL {Rs : List Res} {H : Hp} {p : Addr} {ns : List Int} {ls : List (Addr × List Int)} (h : M (pts (ls ++ [(p, ns)]) :: Rs) H) : M (pt p (.lst (ns.map V.int)) :: pts ls :: Rs) H := by
  have z := M.ptsO (l1 := ls) (l2 := []) h
  rw [List.append_nil] at z
  exact z
theorem M.gotP {Rs : List Res} {H : Hp} {ls : List (Addr × List Int)} (h : M Rs H) (i : Nat) (e : Rs[i]? = some (pts ls)) {q : Addr × List Int} (hq : q ∈ ls) : H q.1 = some (.lst (q.2.map V.int)) := by
  obtain ⟨F, L, ⟨l1, l2, rfl, rfl, b⟩, m⟩ := h.at i e
  exact (m.own (q.1, .lst (q.2.map V.int)) (List.mem_append_left _ (List.mem_map.mpr ⟨q, hq, rfl⟩))).1
theorem M.ptsF {Rs : List Res} {H : Hp} : ∀ {ls : List (Addr × List Int)} {fs : List (Addr × List Int)}, M (pts ls :: fzs fs :: Rs) H → M (fzs (fs ++ ls) :: Rs) H
  | [], fs, h => by
    rw [List.append_nil]
    exact h.tl
  | (p, ns) :: ls, fs, h => by
    have z := M.ptsO (l1 := []) (l2 := ls) h
    have z2 : M (pt p (.lst (ns.map V.int)) :: fzs fs :: pts ls :: Rs) H := z.perm (.cons _ (.swap _ _ _))
    have z3 : M (pts ls :: fzs (fs ++ [(p, ns)]) :: Rs) H := z2.fzs1.perm (.swap _ _ _)
    have z4 := M.ptsF z3
    rw [List.append_assoc] at z4
    exact z4
/-- data of small size -/
structure Sh (dp bk : Nat) (d : PyData) : Prop where
  sh : d.showable = true
  cl : d.canLay0 = true
  lf : d.leavesShort 400 = true
  dp : d.depth ≤ dp
  bk : d.bulk ≤ bk
theorem Sh.shw {dp bk : Nat} {d : PyData} (h : Sh dp bk d) (h1 : dp ≤ 60) (h2 : bk ≤ 40000) : Shw d := by
  refine ⟨h.sh, h.cl, Nat.le_trans h.dp h1, ?_⟩
  have z := PyData.shown_le_bulk 400 (by decide) d h.lf
  have b := h.bk
  rw [sizeLine_eq]
  omega
theorem Sh.int {n : Int} (h : n.natAbs < 2 ^ 1000) : Sh 0 0 (.int n) := by
  have l := log_lt h
  refine ⟨by simpa [PyData.showable] using l, rfl, ?_, by simp [PyData.depth], by simp [PyData.bulk]⟩
  have q : (2 : Nat) ^ 1000 < 10 ^ 310 := by decide +kernel
  have z : (PySem.Str.ofString (toString n)).length ≤ 311 := by
    have := int_text_length_le10 (a := n) (k := 310) (by decide) (by omega)
    rw [PySem.ofString_length]
    exact this
  simp only [PyData.leavesShort, PyData.shown]
  exact decide_eq_true (Nat.le_trans z (show 311 ≤ 400 by decide))
theorem Sh.none : Sh 0 0 .none := ⟨rfl, rfl, rfl, by simp [PyData.depth], by simp [PyData.bulk]⟩
theorem Sh.bool (b : Bool) : Sh 0 0 (.bool b) := ⟨rfl, rfl, rfl, by simp [PyData.depth], by simp [PyData.bulk]⟩
theorem Sh.all {dp bk : Nat} : ∀ {ds : List PyData}, (∀ d ∈ ds, Sh dp bk d) → PyData.showableAll ds = true ∧ PyData.canLayAll0 ds = true ∧ PyData.leavesShortAll 400 ds = true ∧ PyData.depthAll ds ≤ dp ∧ PyData.bulkAll ds ≤ ds.length * (bk + 1)
  | [], _ => ⟨rfl, rfl, rfl, Nat.zero_le _, by simp [PyData.bulkAll]⟩
  | d :: ds, h => by
    have a := h d List.mem_cons_self
    obtain ⟨b1, b2, b3, b4, b5⟩ := Sh.all (ds := ds) fun e he => h e (List.mem_cons_of_mem _ he)
    refine ⟨by simp [PyData.showableAll, a.sh, b1], by simp [PyData.canLayAll0, a.cl, b2], by simp [PyData.leavesShortAll, a.lf, b3], ?_, ?_⟩
    · have := a.dp
      simp only [PyData.depthAll]
      omega
    · have := a.bk
      simp only [PyData.bulkAll, List.length_cons]
      rw [Nat.add_mul]
      omega
theorem Sh.list {dp bk : Nat} {ds : List PyData} (h : ∀ d ∈ ds, Sh dp bk d) : Sh (dp + 1) (ds.length * (bk + 1)) (.list ds) := by
  obtain ⟨b1, b2, b3, b4, b5⟩ := Sh.all h
  exact ⟨by simp only [PyData.showable, b1], by simp only [PyData.canLay0, b2], by simp only [PyData.leavesShort, b3], by simp only [PyData.depth]; omega, by simpa only [PyData.bulk] using b5⟩
theorem Sh.tuple {dp bk : Nat} {ds : List PyData} (h : ∀ d ∈ ds, Sh dp bk d) : Sh (dp + 1) (ds.length * (bk + 1)) (.tuple ds) := by
  obtain ⟨b1, b2, b3, b4, b5⟩ := Sh.all h
  exact ⟨by simp only [PyData.showable, b1], by simp only [PyData.canLay0, b2], by simp only [PyData.leavesShort, b3], by simp only [PyData.depth]; omega, by simpa only [PyData.bulk] using b5⟩
theorem Sh.up {dp bk dp' bk' : Nat} {d : PyData} (h : Sh dp bk d) (h1 : dp ≤ dp') (h2 : bk ≤ bk') : Sh dp' bk' d := ⟨h.sh, h.cl, h.lf, Nat.le_trans h.dp h1, Nat.le_trans h.bk h2⟩
/-- lists of ints, lists of such -/
def dI (ns : List Int) : PyData := .list (ns.map PyData.int)
def dL (ls : List (List Int)) : PyData := .list (ls.map dI)
theorem Sh.ints {ns : List Int} {k : Nat} (h : ∀ n ∈ ns, n.natAbs < 2 ^ 1000) (hk : ns.length ≤ k) : Sh 1 k (dI ns) := by
  refine (Sh.list (dp := 0) (bk := 0) fun d hd => ?_).up (Nat.le_refl _) (by simp; exact hk)
  obtain ⟨n, hn, rfl⟩ := List.mem_map.mp hd
  exact Sh.int (h n hn)
theorem Sh.lists {ls : List (List Int)} {k m : Nat} (h : ∀ l ∈ ls, ∀ n ∈ l, n.natAbs < 2 ^ 1000) (hk : ∀ l ∈ ls, l.length ≤ k) (hm : ls.length ≤ m) : Sh 2 (m * (k + 1)) (dL ls) := by
  refine (Sh.list (dp := 1) (bk := k) fun d hd => ?_).up (Nat.le_refl _) (by rw [List.length_map]; exact Nat.mul_le_mul_right _ hm)
  obtain ⟨l, hl, rfl⟩ := List.mem_map.mp hd
  exact Sh.ints (h l hl) (hk l hl)
theorem dpAll_lists {K : PySem.W.Frag} {H : Hp} : ∀ {ls : List (Addr × List Int)}, (∀ q ∈ ls, H q.1 = some (.lst (q.2.map V.int))) → DpAll K H (rfs ls) ((ls.map (·.2)).map dI)
  | [], _ => .nil
  | q :: ls, h => .cons (dp_ints (SqL.of (h q List.mem_cons_self))) (dpAll_lists fun r hr => h r (List.mem_cons_of_mem _ hr))
theorem dp_lists {K : PySem.W.Frag} {H : Hp} {p : Addr} {ls : List (Addr × List Int)} (hp : SqL K H p (rfs ls)) (h : ∀ q ∈ ls, H q.1 = some (.lst (q.2.map V.int))) : Dp K H (.ref p) (dL (ls.map (·.2))) := .lst hp (dpAll_lists h)
def sp_is_whole (K : PySem.W.Frag) : Sp := fun vs H Q _ => ∃ i : Int, vs = [.int i] ∧ Q (.bl true) H
theorem len_is_whole {K : PySem.W.Frag} (vs : List V) (H : Hp) (Q : VK) (E : XK) (h : sp_is_whole K vs H Q E) : vs.length = 1 := by
  obtain ⟨i, rfl, _⟩ := h
  rfl
theorem v_isi {K : PySem.W.Frag} {H : Hp} {Q : VK} {x : V} {t : Value} {c : String} {b : Bool} (h : TyOf K H x t) (e : PySem.W.kitOne K t (.type c) = some b) (k : Q (.bl b) H) : rIsi K [x, .ty c] H Q := ⟨x, .ty c, t, _, b, rfl, .ty c, .base h, e, k⟩
abbrev t_is_whole (K : PySem.W.Frag) : TS := (tRet (tAndV (tCB (rIsi K) (tCons (tVar 0) (tCons (tC (.ty "int")) tNil))) (tNotV (tCB (rIsi K) (tCons (tVar 0) (tCons (tC (.ty "bool")) tNil))))))
theorem pure_is_whole {K : PySem.W.Frag} (vs : List V) (H : Hp) (Q : VK) (E : XK) (h : sp_is_whole K vs H Q E) : t_is_whole K { nx := fun _ H' => Q .non H', rt := Q } (start ["thing"] vs) H := by
  obtain ⟨i, rfl, k⟩ := h
  show t_is_whole K _ [some (V.int i)] H
  walk_at "go"
  refine v_isi (.int i) rfl ?_
  walk_at "go"
  refine v_isi (.int i) rfl ?_
  walk_at "go"
  exact k
/-! ### figures to the base 1001 -/
def digsI (r : Int) : List Int := if h : 0 < r then (r % 1001 - 1) :: digsI (r / 1001) else []
termination_by r.toNat
decreasing_by omega
theorem digsI_pos {r : Int} (h : 0 < r) : digsI r = (r % 1001 - 1) :: digsI (r / 1001) := by rw [digsI, dif_pos h]
theorem digsI_no {r : Int} (h : ¬ 0 < r) : digsI r = [] := by rw [digsI, dif_neg h]
def backN (n : Int) : Option (List Int) := if digsI n = [] ∨ 16 < (digsI n).length ∨ -1 ∈ digsI n then none else some (digsI n)
theorem digsI_ne {r : Int} (h : 0 < r) : 0 < (digsI r).length := by rw [digsI_pos h]; simp
theorem digsI_le (r : Int) : ∀ m ∈ digsI r, m.natAbs ≤ 1000 := by
  by_cases h : 0 < r
  · intro m hm
    rw [digsI_pos h] at hm
    rcases List.mem_cons.mp hm with z | z
    · omega
    · exact digsI_le (r / 1001) m z
  · intro m hm
    rw [digsI_no h] at hm
    cases hm
termination_by r.toNat
decreasing_by omega
def sp_is_seal (K : PySem.W.Frag) : Sp := fun vs H Q _ => ∃ n : Int, vs = [.int n] ∧ Q (.bl (backN n).isSome) H
def sp_signs_of (K : PySem.W.Frag) : Sp := fun vs H Q _ => ∃ (Rs : List Res) (n : Int), vs = [.int n] ∧ M Rs H ∧ (backN n = none → ∀ H', M Rs H' → Q .non H') ∧ ∀ ds, backN n = some ds → ∀ p H', M (pt p (.lst (ds.map V.int)) :: Rs) H' → Q (.ref p) H'
def sp_l_back (K : PySem.W.Frag) : Sp := fun vs H Q _ => ∃ (Rs : List Res) (n : Int), vs = [.int n] ∧ M Rs H ∧ (backN n = none → ∀ H', M Rs H' → Q .non H') ∧ ∀ ds, backN n = some ds → ∀ p H', M (pt p (.lst (ds.map V.int)) :: Rs) H' → Q (.ref p) H'
def sp_l_sum (K : PySem.W.Frag) : Sp := fun vs H Q _ => ∃ (a : Addr) (ns : List Int), vs = [.ref a] ∧ SqL K H a (ns.map V.int) ∧ (∀ n ∈ ns, 0 ≤ n ∧ n ≤ 999) ∧ ∀ m, Q (.int m) H
def sp_l_made (K : PySem.W.Frag) : Sp := fun vs H Q _ => ∃ (Rs : List Res) (a : Addr) (ns : List Int), vs = [.ref a] ∧ M Rs H ∧ Ent Rs (fun H => SqL K H a (ns.map V.int)) ∧ ∀ m H', M Rs H' → Q (.int m) H'
def sp_l_number (K : PySem.W.Frag) : Sp := fun vs H Q _ => ∃ (Rs : List Res) (bag : Addr), vs = [.ref bag] ∧ M (bagR bag :: Rs) H ∧ ∀ m H', M (bagR bag :: Rs) H' → Q (.int m) H'
theorem len_is_seal {K : PySem.W.Frag} (vs : List V) (H : Hp) (Q : VK) (E : XK) (h : sp_is_seal K vs H Q E) : vs.length = 1 := by
  obtain ⟨i, rfl, _⟩ := h
  rfl
theorem len_signs_of {K : PySem.W.Frag} (vs : List V) (H : Hp) (Q : VK) (E : XK) (h : sp_signs_of K vs H Q E) : vs.length = 1 := by
  obtain ⟨Rs, i, rfl, _⟩ := h
  rfl
theorem len_l_back {K : PySem.W.Frag} (vs : List V) (H : Hp) (Q : VK) (E : XK) (h : sp_l_back K vs H Q E) : vs.length = 1 := by
  obtain ⟨Rs, i, rfl, _⟩ := h
  rfl
theorem len_l_sum {K : PySem.W.Frag} (vs : List V) (H : Hp) (Q : VK) (E : XK) (h : sp_l_sum K vs H Q E) : vs.length = 1 := by
  obtain ⟨Rs, i, rfl, _⟩ := h
  rfl
theorem len_l_made {K : PySem.W.Frag} (vs : List V) (H : Hp) (Q : VK) (E : XK) (h : sp_l_made K vs H Q E) : vs.length = 1 := by
  obtain ⟨Rs, i, ns, rfl, _⟩ := h
  rfl
theorem len_l_number {K : PySem.W.Frag} (vs : List V) (H : Hp) (Q : VK) (E : XK) (h : sp_l_number K vs H Q E) : vs.length = 1 := by
  obtain ⟨Rs, i, rfl, _⟩ := h
  rfl
abbrev t_is_seal_8 (K : PySem.W.Frag) : TS := (tIfS (tTest (tOp (uEq K) (tVar 1) (tC (.int 0)))) (tRet (tC (.bl true))) tNext)
abbrev t_is_seal_7 (K : PySem.W.Frag) : TS := (tSeq (tAug 1 (tC (.int 1001)) iDiv)
  (t_is_seal_8 K))
abbrev t_is_seal_5 (K : PySem.W.Frag) : TS := (tSeq (tIfS (tTest (tOp (uEq K) (tOp uMod (tVar 1) (tC (.int 1001))) (tC (.int 0)))) (tRet (tC (.bl false))) tNext)
  (t_is_seal_7 K))
abbrev t_is_seal_4 (K : PySem.W.Frag) : TS := (tSeq (tFor (iRng1 (tCons (tC (.int 16)) tNil)) (gName 2) (t_is_seal_5 K))
  (tRet (tC (.bl false))))
abbrev t_is_seal_3 (K : PySem.W.Frag) : TS := (tSeq (tAsg (tVar 0) (gName 1))
  (t_is_seal_4 K))
abbrev t_is_seal_1 (K : PySem.W.Frag) : TS := (tSeq (tIfS (tOr (tNot (tB (tCall (sp_is_whole K) [] E0 (tCons (tVar 0) tNil)))) (tTest (tOp uLt (tVar 0) (tC (.int 1))))) (tRet (tC (.bl false))) tNext)
  (t_is_seal_3 K))
abbrev t_is_seal (K : PySem.W.Frag) : TS := (t_is_seal_1 K)
abbrev t_signs_of_8 (K : PySem.W.Frag) : TS := (tSeq (tDrop (tBM K "list" rAppend (tVar 1) (tCons (tOp uSub (tOp uMod (tVar 2) (tC (.int 1001))) (tC (.int 1))) tNil)))
  (tAug 2 (tC (.int 1001)) iDiv))
abbrev t_signs_of_7 (K : PySem.W.Frag) : TS := (tSeq (tWhile (tTest (tOp uGt (tVar 2) (tC (.int 0)))) (t_signs_of_8 K))
  (tRet (tVar 1)))
abbrev t_signs_of_6 (K : PySem.W.Frag) : TS := (tSeq (tAsg (tVar 0) (gName 2))
  (t_signs_of_7 K))
abbrev t_signs_of_5 (K : PySem.W.Frag) : TS := (tSeq (tAsg (tLst tNil) (gName 1))
  (t_signs_of_6 K))
abbrev t_signs_of_3 (K : PySem.W.Frag) : TS := (tSeq (tIfS (tNot (tB (tCall (sp_is_seal K) [] E0 (tCons (tVar 0) tNil)))) (tRet (tC .non)) tNext)
  (t_signs_of_5 K))
abbrev t_signs_of_1 (K : PySem.W.Frag) : TS := (tSeq (tIfS (tNot (tB (tCall (sp_is_whole K) [] E0 (tCons (tVar 0) tNil)))) tNever tNext)
  (t_signs_of_3 K))
abbrev t_signs_of (K : PySem.W.Frag) : TS := (t_signs_of_1 K)
abbrev t_l_back_3 (K : PySem.W.Frag) : TS := (tSeq (tDrop (tBM K "list" rAppend (tVar 2) (tCons (tOp uSub (tOp uMod (tVar 1) (tC (.int 1001))) (tC (.int 1))) tNil)))
  (tAsg (tOp uDiv (tVar 1) (tC (.int 1001))) (gName 1)))
abbrev t_l_back_5 (K : PySem.W.Frag) : TS := (tSeq (tIfS (tOr (tTest (tOp (uEq K) (tVar 2) (tLst tNil))) (tOr (tTest (tOp uGt (tCB (uLen K) (tCons (tVar 2) tNil)) (tC (.int 16)))) (tTest (tOp (uIn K) (tUn (rU fun i => .int (-i)) (tC (.int 1))) (tVar 2))))) (tRet (tC .non)) tNext)
  (tRet (tVar 2)))
abbrev t_l_back_2 (K : PySem.W.Frag) : TS := (tSeq (tWhile (tAnd (tTest (tOp uGt (tVar 1) (tC (.int 0)))) (tTest (tOp uLt (tCB (uLen K) (tCons (tVar 2) tNil)) (tC (.int 17))))) (t_l_back_3 K))
  (t_l_back_5 K))
abbrev t_l_back_1 (K : PySem.W.Frag) : TS := (tSeq (tPar 1 2 (tCons (tVar 0) (tCons (tLst tNil) tNil)))
  (t_l_back_2 K))
abbrev t_l_back (K : PySem.W.Frag) : TS := (t_l_back_1 K)
theorem inV_ints (n : Int) : ∀ ns : List Int, inV (.int n) (ns.map V.int) = decide (n ∈ ns)
  | [] => by simp [inV]
  | m :: r => by
    have ih := inV_ints n r
    unfold inV at ih ⊢
    rw [List.map_cons, List.any_cons, ih]
    have e : eqV (V.int m) (V.int n) = decide (m = n) := by
      show (m == n) = decide (m = n)
      rw [Bool.eq_iff_iff]
      simp
    rw [e]
    by_cases h : m = n
    · simp [h]
    · have h2 : ¬ n = m := fun z => h z.symm
      simp [h, h2]
theorem pure_is_seal {K : PySem.W.Frag} (vs : List V) (H : Hp) (Q : VK) (E : XK) (h : sp_is_seal K vs H Q E) : t_is_seal K { nx := fun _ H' => Q .non H', rt := Q } (start ["thing", "rest", "turn"] vs) H := by
  obtain ⟨n, rfl, k⟩ := h
  show t_is_seal K _ [some (V.int n), none, none] H
  walk_at "go"
  refine ⟨n, rfl, ?_⟩
  walk_at "go"
  refine v_ifD (fun h => ?_) (fun h => ?_)
  · walk_at "go"
    have e : backN n = none := by
      unfold backN
      rw [if_pos (Or.inl (digsI_no (by omega)))]
    rw [e] at k
    exact k
  · walk_at "go"
    refine v_itR (by decide) ?_
    refine for_W walk_range (fun i σ H' => H' = H ∧ ∃ (pre : List Int) (r : Int) (x : Option V), σ = [some (V.int n), some (V.int r), x] ∧ 0 < r ∧ digsI n = pre ++ digsI r ∧ pre.length = i ∧ ¬ -1 ∈ pre) ⟨rfl, [], n, none, rfl, by omega, rfl, rfl, by simp⟩ (fun _ _ _ _ _ => trivial) ?_ ?_
    · rintro i x σ H1 H2 hi ⟨rfl, pre, r, x2, rfl, hr, hd, hl, hm⟩ ⟨rfl, rfl⟩
      have hi2 : i < 16 := hi
      rw [digsI_pos hr] at hd
      walk_at "go"
      refine v_ifD (fun h => ?_) (fun h => ?_)
      · walk_at "go"
        have e : backN n = none := by
          unfold backN
          refine if_pos (Or.inr (Or.inr ?_))
          rw [hd, h]
          simp
        rw [e] at k
        exact k
      · walk_at "go"
        have hm2 : ¬ -1 ∈ pre ++ [r % 1001 - 1] := by
          intro z
          rcases List.mem_append.mp z with z | z
          · exact hm z
          · have := List.mem_singleton.mp z
            omega
        refine v_ifD (fun h2 => ?_) (fun h2 => ?_)
        · walk_at "go"
          have e : backN n = some (digsI n) := by
            unfold backN
            rw [if_neg]
            rw [hd, digsI_no (by omega)]
            rintro (z | z | z)
            · simp at z
            · simp at z
              omega
            · exact hm2 z
          rw [e] at k
          exact k
        · walk_at "go"
          exact ⟨rfl, pre ++ [r % 1001 - 1], r / 1001, _, rfl, by omega, by rw [hd, List.append_assoc]; rfl, by simp [hl], hm2⟩
    · rintro σ H1 ⟨rfl, pre, r, x2, rfl, hr, hd, hl, hm⟩
      walk_at "go"
      have hl2 : pre.length = 16 := hl
      have e : backN n = none := by
        unfold backN
        refine if_pos (Or.inr (Or.inl ?_))
        have := digsI_ne hr
        rw [hd, List.length_append]
        omega
      rw [e] at k
      exact k
theorem pure_signs_of {K : PySem.W.Frag} (vs : List V) (H : Hp) (Q : VK) (E : XK) (h : sp_signs_of K vs H Q E) : t_signs_of K { nx := fun _ H' => Q .non H', rt := Q } (start ["number", "found", "rest"] vs) H := by
  obtain ⟨Rs, n, rfl, S, k1, k2⟩ := h
  show t_signs_of K _ [some (V.int n), none, none] H
  walk_at "go"
  refine ⟨n, rfl, ?_⟩
  walk_at "go"
  refine ⟨n, rfl, ?_⟩
  cases e : backN n with
  | none =>
    dsimp only [Option.isSome]
    walk_at "go"
    exact k1 e H S
  | some ds =>
    have ed : digsI n = ds ∧ ds.length ≤ 16 := by
      unfold backN at e
      split at e
      · cases e
      · rename_i hn
        cases e
        refine ⟨rfl, ?_⟩
        omega
    dsimp only [Option.isSome]
    walk_at "go"
    refine v_lst S (by simp) fun fo H1 S1 => ?_
    walk_at "go"
    refine wh_I (fun m σ H' => ∃ (pre : List Int) (r : Int), m = r.toNat ∧ σ = [some (V.int n), some (V.ref fo), some (V.int r)] ∧ ds = pre ++ digsI r ∧ M (pt fo (.lst (pre.map V.int)) :: Rs) H') n.toNat ⟨[], n, rfl, rfl, ed.1.symm, S1⟩ ?_
    rintro m σ H2 ⟨pre, r, rfl, rfl, hd, S2⟩
    walk_at "ev"
    refine v_ifD (fun h => ?_) (fun h => ?_)
    · refine wh_N ?_
      rw [digsI_pos h] at hd
      have hp : pre.length ≤ 16 := by
        have := congrArg List.length hd
        rw [List.length_append] at this
        omega
      walk_at "go"
      refine v_tyL (SqL.of (S2.got 0 rfl)) ?_
      walk_at "go"
      refine v_app S2 0 rfl (by rw [List.length_map]; omega) fun H3 S3 => ?_
      walk_at "go"
      refine ⟨(r / 1001).toNat, by omega, pre ++ [r % 1001 - 1], r / 1001, rfl, rfl, by rw [hd, List.append_assoc]; rfl, ?_⟩
      rw [List.map_append]
      exact S3
    · walk_at "go"
      rw [digsI_no h, List.append_nil] at hd
      subst hd
      exact k2 _ e fo H2 S2
theorem pure_l_back {K : PySem.W.Frag} (vs : List V) (H : Hp) (Q : VK) (E : XK) (h : sp_l_back K vs H Q E) : t_l_back K { nx := fun _ H' => Q .non H', rt := Q } (start ["_law_number_here", "_law_rest", "_law_found"] vs) H := by
  obtain ⟨Rs, n, rfl, S, k1, k2⟩ := h
  show t_l_back K _ [some (V.int n), none, none] H
  walk_at "go"
  refine v_lst S (by simp) fun fo H1 S1 => ?_
  walk_at "go"
  refine wh_I (fun m σ H' => ∃ (pre : List Int) (r : Int), m = r.toNat ∧ σ = [some (V.int n), some (V.int r), some (V.ref fo)] ∧ digsI n = pre ++ digsI r ∧ pre.length ≤ 17 ∧ M (pt fo (.lst (pre.map V.int)) :: Rs) H') n.toNat ⟨[], n, rfl, rfl, rfl, by simp, S1⟩ ?_
  rintro m σ H2 ⟨pre, r, rfl, rfl, hd, hp, S2⟩
  -- behind the loop
  have fin : (¬ 0 < r ∨ pre.length = 17) → t_l_back_5 K { nx := fun _ H' => Q .non H', rt := Q } [some (V.int n), some (V.int r), some (V.ref fo)] H2 := by
    intro hend
    have hb : (pre = [] ∨ 16 < pre.length ∨ -1 ∈ pre → backN n = none) ∧ (¬ (pre = [] ∨ 16 < pre.length ∨ -1 ∈ pre) → backN n = some pre) := by
      rcases hend with h | h
      · rw [digsI_no h, List.append_nil] at hd
        unfold backN
        rw [hd]
        exact ⟨fun z => if_pos z, fun z => if_neg z⟩
      · refine ⟨fun _ => ?_, fun z => absurd (Or.inr (Or.inl (by omega))) z⟩
        unfold backN
        refine if_pos (Or.inr (Or.inl ?_))
        rw [hd, List.length_append]
        omega
    walk_at "st"
    refine v_lst S2 (by simp) fun em H3 S3 => ?_
    refine v_eqD (dp_ints (SqL.of (S3.got 1 rfl))) (dp_ints (ns := []) (SqL.of (S3.got 0 rfl))) (shaped_ints _) (shaped_ints _) ?_
    rw [eqv_ints]
    walk_at "ev"
    refine v_ifD (fun h => ?_) (fun h => ?_)
    · walk_at "go"
      exact k1 (hb.1 (Or.inl h)) _ S3.tl.tl
    · walk_at "ev"
      rw [List.length_map]
      refine v_ifD (fun h2 => ?_) (fun h2 => ?_)
      · walk_at "go"
        exact k1 (hb.1 (Or.inr (Or.inl (by omega)))) _ S3.tl.tl
      · walk_at "ev"
        refine .inl ⟨fo, pre.map V.int, rfl, .inl (SqL.of (S3.got 1 rfl)), rfl, ?_, ?_⟩
        · rw [List.all_map, List.all_eq_true]
          intro x _
          rfl
        · show ∃ b, V.bl (inV (.int (-1)) (pre.map V.int)) = V.bl b ∧ _
          rw [inV_ints]
          walk_at "ev"
          refine v_ifD (fun h3 => ?_) (fun h3 => ?_)
          · walk_at "go"
            exact k1 (hb.1 (Or.inr (Or.inr h3))) _ S3.tl.tl
          · walk_at "go"
            exact k2 _ (hb.2 (by rintro (z | z | z); exact h z; omega; exact h3 z)) fo _ S3.tl
  walk_at "ev"
  refine v_ifD (fun h => ?_) (fun h => ?_)
  · walk_at "ev"
    rw [List.length_map]
    refine v_ifD (fun h2 => ?_) (fun h2 => ?_)
    · refine wh_N ?_
      rw [digsI_pos h] at hd
      walk_at "go"
      refine v_tyL (SqL.of (S2.got 0 rfl)) ?_
      walk_at "go"
      refine v_app S2 0 rfl (by rw [List.length_map]; omega) fun H3 S3 => ?_
      walk_at "go"
      refine ⟨(r / 1001).toNat, by omega, pre ++ [r % 1001 - 1], r / 1001, rfl, rfl, by rw [hd, List.append_assoc]; rfl, by simp; omega, ?_⟩
      rw [List.map_append]
      exact S3
    · walk_at "nx"
      exact fin (Or.inr (by omega))
  · walk_at "ev"
    walk_at "nx"
    exact fin (Or.inl h)
abbrev t_l_signs_4 (K : PySem.W.Frag) : TS := (tSeq (tIfS (tTest (tOp (uEq K) (tCall (sp_l_take K) [] E0 (tCons (tVar 0) (tCons (tC (.int 6)) tNil))) (tC (.int 0)))) (tAsg (tC (.int 999)) (gSub (tVar 3) (tCall (sp_l_take K) [] E0 (tCons (tVar 0) (tCons (tVar 1) tNil))) uSet)) tNext)
  (tRet (tVar 3)))
abbrev t_l_signs_3 (K : PySem.W.Frag) : TS := (tSeq (tAsg (tLc (iRng1 (tCons (tVar 1) tNil)) (gName 4) tYes (tCall (sp_l_take K) [] E0 (tCons (tVar 0) (tCons (tVar 2) tNil))) [4]) (gName 3))
  (t_l_signs_4 K))
abbrev t_l_signs_2 (K : PySem.W.Frag) : TS := (tSeq (tAsg (tOp (uIx K) (tLst (tCons (tC (.int 1000)) (tCons (tC (.int 2)) (tCons (tC (.int 1000)) tNil)))) (tCall (sp_l_take K) [] E0 (tCons (tVar 0) (tCons (tC (.int 3)) tNil)))) (gName 2))
  (t_l_signs_3 K))
abbrev t_l_signs_1 (K : PySem.W.Frag) : TS := (tSeq (tAsg (tOp (uIx K) (tLst (tCons (tC (.int 1)) (tCons (tC (.int 2)) (tCons (tOp (uAdd K) (tC (.int 1)) (tCall (sp_l_take K) [] E0 (tCons (tVar 0) (tCons (tC (.int 16)) tNil)))) (tCons (tC (.int 16)) tNil))))) (tCall (sp_l_take K) [] E0 (tCons (tVar 0) (tCons (tC (.int 4)) tNil)))) (gName 1))
  (t_l_signs_2 K))
abbrev t_l_signs (K : PySem.W.Frag) : TS := (t_l_signs_1 K)
theorem len_l_signs {K : PySem.W.Frag} (vs : List V) (H : Hp) (Q : VK) (E : XK) (h : sp_l_signs K vs H Q E) : vs.length = 1 := by
  obtain ⟨Rs, a, rfl, _⟩ := h
  rfl
theorem pure_l_signs {K : PySem.W.Frag} (vs : List V) (H : Hp) (Q : VK) (E : XK) (h : sp_l_signs K vs H Q E) : t_l_signs K { nx := fun _ H' => Q .non H', rt := Q } (start ["_law_bag_here", "_law_many", "_law_top", "_law_found", "_law_k"] vs) H := by
  obtain ⟨Rs, bag, rfl, S, k⟩ := h
  show t_l_signs K _ [some (V.ref bag), none, none, none, none] H
  walk_at "go"
  refine u_take S (by decide) fun v1 H1 l1 u1 S1 => ?_
  walk_at "go"
  refine v_lst S1 (by simp) fun p2 H2 S2 => ?_
  walk_at "go"
  refine u_take (S2.at 1 rfl) (by decide) fun v3 H3 l3 u3 S3 => ?_
  obtain ⟨many, ⟨lm, um⟩, em⟩ := menuI (xs := [V.int 1, V.int 2, V.int (1 + v1), V.int 16]) (v := v3) (fun n => 1 ≤ n ∧ n ≤ 16) (by simp only [AllI, and_true]; omega) l3 u3
  refine v_ixL (SqL.of (S3.got 1 rfl)) em ?_
  walk_at "go"
  refine v_lst (S3.at 1 rfl).tl (by simp) fun p4 H4 S4 => ?_
  walk_at "go"
  refine u_take (S4.at 1 rfl) (by decide) fun v5 H5 l5 u5 S5 => ?_
  obtain ⟨tp, ⟨lt, ut⟩, et⟩ := menuI (xs := [V.int 1000, V.int 2, V.int 1000]) (v := v5) (fun n => 2 ≤ n ∧ n ≤ 1000) (by simp only [AllI, and_true]; omega) l5 u5
  refine v_ixL (SqL.of (S5.got 1 rfl)) et ?_
  walk_at "go"
  refine v_itR (by omega) ?_
  have S6 : M (bagR bag :: Rs) H5 := (S5.at 1 rfl).tl
  refine lc_W walk_range S6 (fun i acc => ∃ ms : List Int, acc = ms.map V.int ∧ ms.length = i ∧ ∀ n ∈ ms, 0 ≤ n ∧ n ≤ 999) ⟨[], rfl, rfl, (fun _ h => nomatch h)⟩ (fun _ _ => trivial) ?_ ?_
  · rintro i x acc E H H' hi ⟨ms, rfl, hm, hn⟩ S ⟨rfl, rfl⟩
    walk_at "go"
    refine u_take (S.at 1 rfl) (by omega) fun v H2 l u S2 => ?_
    refine lc_next (S2.at 1 rfl) 0 rfl (by rw [List.length_map]; omega) fun H' S' => ?_
    refine ⟨_, ⟨ms ++ [v], by simp, by simp [hm], fun m h => ?_⟩, S'⟩
    rcases List.mem_append.mp h with h | h
    · exact hn m h
    · cases List.mem_singleton.mp h
      omega
  · rintro E acc H ⟨ms, rfl, hm, hn⟩ S
    walk_at "go"
    refine u_take (S.at 1 rfl) (by decide) fun v H2 l u S2 => ?_
    walk_at "go"
    refine v_ifD (fun h => ?_) (fun h => ?_)
    · walk_at "go"
      refine u_take S2 (by omega) fun v2 H3 l u S3 => ?_
      refine v_set S3 1 rfl (ixN_int l (by rw [List.length_map]; omega)) fun H4 S4 => ?_
      have S5 : M (bagR bag :: pt E (.lst ((ms.set v2.toNat 999).map V.int)) :: Rs) H4 := by
        rw [← map_set]
        exact S4
      walk_at "go"
      refine k E _ _ ⟨by rw [set_len]; omega, by rw [set_len]; omega, fun n hn2 => ?_⟩ S5
      rcases List.mem_or_eq_of_mem_set hn2 with h | rfl
      · exact hn n h
      · omega
    · walk_at "go"
      exact k E _ _ ⟨by omega, by omega, hn⟩ S2
abbrev t_l_sum_4 (K : PySem.W.Frag) : TS := (tSeq (tAug 1 (tOp uMul (tOp (uAdd K) (tVar 3) (tC (.int 1))) (tVar 2)) iAdd)
  (tAug 2 (tC (.int 1001)) iMul))
abbrev t_l_sum_3 (K : PySem.W.Frag) : TS := (tSeq (tFor (iList K (tVar 0)) (gName 3) (t_l_sum_4 K))
  (tRet (tVar 1)))
abbrev t_l_sum_2 (K : PySem.W.Frag) : TS := (tSeq (tAsg (tC (.int 1)) (gName 2))
  (t_l_sum_3 K))
abbrev t_l_sum_1 (K : PySem.W.Frag) : TS := (tSeq (tAsg (tC (.int 0)) (gName 1))
  (t_l_sum_2 K))
abbrev t_l_sum (K : PySem.W.Frag) : TS := (t_l_sum_1 K)
abbrev t_l_made_2 (K : PySem.W.Frag) : TS := (tSeq (tFor (iList K (tRevL K (tVar 0))) (gName 2) (tAsg (tOp (uAdd K) (tOp uMul (tVar 1) (tC (.int 1001))) (tVar 2)) (gName 1)))
  (tRet (tVar 1)))
abbrev t_l_made_1 (K : PySem.W.Frag) : TS := (tSeq (tAsg (tC (.int 0)) (gName 1))
  (t_l_made_2 K))
abbrev t_l_made (K : PySem.W.Frag) : TS := (t_l_made_1 K)
abbrev t_l_number_10 (K : PySem.W.Frag) : TS := (tSeq (tAsg (tC (.int 0)) (gSub (tVar 4) (tCall (sp_l_take K) [] E0 (tCons (tVar 0) (tCons (tCB (uLen K) (tCons (tVar 4) tNil)) tNil))) uSet))
  (tRet (tCall (sp_l_made K) [] E0 (tCons (tVar 4) tNil))))
abbrev t_l_number_14 (K : PySem.W.Frag) : TS := (tSeq (tIfS (tTest (tOp (uEq K) (tVar 1) (tC (.int 10)))) (tRet (tOp (uIx K) (tLst (tCons (tC (.int 0)) (tCons (tC (.int 1)) (tCons (tC (.int 2)) (tCons (tC (.int 1000)) (tCons (tC (.int 1001)) (tCons (tC (.int 1002)) (tCons (tOp uPow (tC (.int 1001)) (tC (.int 16))) (tCons (tOp uSub (tOp uPow (tC (.int 1001)) (tC (.int 16))) (tC (.int 1))) (tCons (tOp uPow (tC (.int 10)) (tC (.int 60))) (tCons (tC (.int 999)) tNil))))))))))) (tCall (sp_l_take K) [] E0 (tCons (tVar 0) (tCons (tC (.int 10)) tNil))))) tNext)
  (tRet (tCB rIntT (tCons (tOp uMul (tC (.str "7")) (tOp (uAdd K) (tC (.int 1)) (tCall (sp_l_take K) [] E0 (tCons (tVar 0) (tCons (tC (.int 900)) tNil))))) tNil))))
abbrev t_l_number_12 (K : PySem.W.Frag) : TS := (tSeq (tIfS (tTest (tOp (uEq K) (tVar 1) (tC (.int 9)))) (tRet (tCall (sp_l_made K) [] E0 (tCons (tOp (uAdd K) (tVar 4) (tOp uMul (tLst (tCons (tOp (uAdd K) (tC (.int 1)) (tCall (sp_l_take K) [] E0 (tCons (tVar 0) (tCons (tC (.int 1000)) tNil)))) tNil)) (tOp uSub (tC (.int 17)) (tCB (uLen K) (tCons (tVar 4) tNil))))) tNil))) tNext)
  (t_l_number_14 K))
abbrev t_l_number_9 (K : PySem.W.Frag) : TS := (tSeq (tIfS (tTest (tOp uLt (tVar 1) (tC (.int 9)))) (t_l_number_10 K) tNext)
  (t_l_number_12 K))
abbrev t_l_number_7 (K : PySem.W.Frag) : TS := (tSeq (tIfS (tTest (tOp uLt (tVar 1) (tC (.int 7)))) (tRet (tOp (uIx K) (tLst (tCons (tOp (uAdd K) (tVar 3) (tC (.int 1))) (tCons (tOp uSub (tVar 3) (tC (.int 1))) (tCons (tOp uMul (tVar 3) (tC (.int 1001))) (tCons (tUn (rU fun i => .int (-i)) (tVar 3)) tNil))))) (tOp uSub (tVar 1) (tC (.int 3))))) tNext)
  (t_l_number_9 K))
abbrev t_l_number_5 (K : PySem.W.Frag) : TS := (tSeq (tIfS (tTest (tOp uLt (tVar 1) (tC (.int 3)))) (tRet (tVar 3)) tNext)
  (t_l_number_7 K))
abbrev t_l_number_4 (K : PySem.W.Frag) : TS := (tSeq (tAsg (tLc (iList K (tVar 2)) (gName 5) tYes (tOp (uAdd K) (tVar 5) (tC (.int 1))) [5]) (gName 4))
  (t_l_number_5 K))
abbrev t_l_number_3 (K : PySem.W.Frag) : TS := (tSeq (tAsg (tCall (sp_l_sum K) [] E0 (tCons (tVar 2) tNil)) (gName 3))
  (t_l_number_4 K))
abbrev t_l_number_2 (K : PySem.W.Frag) : TS := (tSeq (tAsg (tCall (sp_l_signs K) [] E0 (tCons (tVar 0) tNil)) (gName 2))
  (t_l_number_3 K))
abbrev t_l_number_1 (K : PySem.W.Frag) : TS := (tSeq (tAsg (tCall (sp_l_take K) [] E0 (tCons (tVar 0) (tCons (tC (.int 12)) tNil))) (gName 1))
  (t_l_number_2 K))
abbrev t_l_number (K : PySem.W.Frag) : TS := (t_l_number_1 K)
theorem pure_l_sum {K : PySem.W.Frag} (vs : List V) (H : Hp) (Q : VK) (E : XK) (h : sp_l_sum K vs H Q E) : t_l_sum K { nx := fun _ H' => Q .non H', rt := Q } (start ["_law_signs_here", "_law_found", "_law_times", "_law_sign"] vs) H := by
  obtain ⟨a, ns, rfl, hS, sg, k⟩ := h
  show t_l_sum K _ [some (V.ref a), none, none, none] H
  walk_at "go"
  refine v_itL hS ?_
  refine for_W walk_list (fun i σ H' => H' = H ∧ ∃ m t v, σ = [some (V.ref a), some (V.int m), some (V.int t), v]) ⟨rfl, _, _, none, rfl⟩ (fun i σ H' _ h => by rw [h.1]; exact hS) ?_ ?_
  · rintro i x σ H1 H2 hi ⟨rfl, m, t, v, rfl⟩ ⟨rfl, hx⟩
    obtain ⟨n, hn, rfl⟩ := ints_get hx
    have b := sg n (List.mem_of_getElem? hn)
    walk_at "go"
    exact ⟨rfl, _, _, _, rfl⟩
  · rintro σ H2 ⟨rfl, m, t, v, rfl⟩
    walk_at "go"
    exact k _
theorem pure_l_made {K : PySem.W.Frag} (vs : List V) (H : Hp) (Q : VK) (E : XK) (h : sp_l_made K vs H Q E) : t_l_made K { nx := fun _ H' => Q .non H', rt := Q } (start ["_law_digits", "_law_found", "_law_digit"] vs) H := by
  obtain ⟨Rs, a, ns, rfl, S, hS, k⟩ := h
  show t_l_made K _ [some (V.ref a), none, none] H
  walk_at "go"
  refine v_rev S (hS _ S) fun r H1 S1 => ?_
  rw [← List.map_reverse] at S1
  refine v_itL (SqL.of (S1.got 0 rfl)) ?_
  refine for_W walk_list (fun i σ H' => H' = H1 ∧ ∃ m v, σ = [some (V.ref a), some (V.int m), v]) ⟨rfl, _, none, rfl⟩ (fun i σ H' _ h => by rw [h.1]; exact SqL.of (S1.got 0 rfl)) ?_ ?_
  · rintro i x σ H2 H3 hi ⟨rfl, m, v, rfl⟩ ⟨rfl, hx⟩
    obtain ⟨n, hn, rfl⟩ := ints_get hx
    walk_at "go"
    exact ⟨rfl, _, _, rfl⟩
  · rintro σ H2 ⟨rfl, m, v, rfl⟩
    walk_at "go"
    exact k _ _ S1.tl
theorem u_signs {K : PySem.W.Frag} {Rs : List Res} {H : Hp} {bag : Addr} {Q : VK} {E : XK} (S : M (bagR bag :: Rs) H) (k : ∀ p ns H', Signs 1 16 ns → M (bagR bag :: pt p (.lst (ns.map V.int)) :: Rs) H' → Q (.ref p) H') :
    sp_l_signs K ([.ref bag] ++ []) H Q E := ⟨Rs, bag, rfl, S, k⟩
theorem u_made {K : PySem.W.Frag} {Rs : List Res} {H : Hp} {a : Addr} {ns : List Int} {Q : VK} {E : XK} (S : M Rs H) (hS : Ent Rs (fun H => SqL K H a (ns.map V.int))) (k : ∀ m H', M Rs H' → Q (.int m) H') : sp_l_made K ([.ref a] ++ []) H Q E := ⟨Rs, a, ns, rfl, S, hS, k⟩
theorem menuA {xs : List V} {v : Int} (h : AllI (fun _ => True) xs) (h0 : 0 ≤ v) (h1 : v < xs.length) : ∃ n : Int, atI xs v = some (.int n) := by
  obtain ⟨n, _, e⟩ := menuI (fun _ => True) h h0 h1
  exact ⟨n, e⟩
theorem seven_ok (k : Nat) (h : 1 ≤ k) (h2 : k ≤ 1000) : ∃ n : Int, PySem.intText? (SX.S (List.replicate k 55)) = some n := by
  refine ⟨_, SX.int_S ?_ ?_ ?_⟩
  · rw [List.all_eq_true]
    intro x hx
    rw [List.eq_of_mem_replicate hx]
    decide
  · intro z
    have := congrArg List.length z
    rw [List.length_replicate] at this
    simp at this
    omega
  · rw [List.length_replicate]
    omega
theorem pure_l_number {K : PySem.W.Frag} (vs : List V) (H : Hp) (Q : VK) (E : XK) (h : sp_l_number K vs H Q E) : t_l_number K { nx := fun _ H' => Q .non H', rt := Q } (start ["_law_bag_here", "_law_way", "_law_signs_here", "_law_seal", "_law_digits", "_law_sign"] vs) H := by
  obtain ⟨Rs, bag, rfl, S, k⟩ := h
  show t_l_number K _ [some (V.ref bag), none, none, none, none, none] H
  walk_at "go"
  refine u_take S (by decide) fun w H1 lw uw S1 => ?_
  walk_at "go"
  refine u_signs S1 fun p ns H2 sg S2 => ?_
  walk_at "go"
  refine ⟨p, ns, rfl, SqL.of (S2.got 1 rfl), sg.sg, fun sl0 => ?_⟩
  have hl := sg.hi
  have hlo := sg.lo
  walk_at "go"
  refine v_itL (SqL.of (S2.got 1 rfl)) ?_
  refine lc_W walk_list S2 (fun i acc => acc = ((ns.take i).map fun n => n + 1).map V.int) rfl (fun H S => SqL.of (S.got 1 rfl)) ?_ ?_
  · rintro i x acc L H3 H4 hi rfl S ⟨rfl, hx⟩
    obtain ⟨n, hn, rfl⟩ := ints_get hx
    walk_at "go"
    refine lc_next S 0 rfl (by simp only [List.length_map, List.length_take]; omega) fun H5 S5 => ⟨_, rfl, ?_⟩
    rw [take_more hn, List.map_append, List.map_append]
    exact S5
  rintro dg acc H3 rfl S3
  rw [List.length_map, List.take_length] at S3
  have hdl : (ns.map fun n => n + 1).length = ns.length := List.length_map _
  generalize (ns.map fun n => n + 1) = ds at S3 hdl
  have S4 : M (bagR bag :: pt dg (.lst (ds.map V.int)) :: Rs) H3 := by walk_at "sub"
  clear S S1 S2 S3
  walk_at "nx"
  walk_at "st"
  refine v_ifD (fun h => ?_) (fun h => ?_)
  · walk_at "go"
    exact k _ _ (by walk_at "sub")
  refine g_next ?_
  walk_at "nx"
  walk_at "st"
  refine v_ifD (fun h => ?_) (fun h => ?_)
  · walk_at "st"
    refine v_lst S4 (by simp) fun me H5 S5 => ?_
    walk_at "ev"
    obtain ⟨m, em⟩ := menuA (xs := [V.int (sl0 + 1), V.int (sl0 - 1), V.int (sl0 * 1001), V.int (-sl0)]) (v := w - 3) (by simp [AllI]) (by omega) (by simp; omega)
    refine v_ixL (SqL.of (S5.got 0 rfl)) em ?_
    exact k _ _ (by walk_at "sub")
  refine g_next ?_
  walk_at "nx"
  walk_at "st"
  refine v_ifD (fun h => ?_) (fun h => ?_)
  · walk_at "st"
    rw [List.length_map]
    refine u_take S4 (by omega) fun v H5 l u S5 => ?_
    refine v_set S5 1 rfl (ixN_int l (by rw [List.length_map]; omega)) fun H6 S6 => ?_
    have S7 : M (bagR bag :: pt dg (.lst ((ds.set v.toNat 0).map V.int)) :: Rs) H6 := by
      rw [← map_set]
      exact S6
    walk_at "go"
    refine u_made S7 (fun H S => SqL.of (S.got 1 rfl)) fun m H7 S8 => ?_
    exact k _ _ (by walk_at "sub")
  refine g_next ?_
  walk_at "nx"
  walk_at "st"
  refine v_ifD (fun h => ?_) (fun h => ?_)
  · walk_at "st"
    refine u_take S4 (by decide) fun v H5 l u S5 => ?_
    walk_at "ev"
    refine v_lst S5 (by simp) fun o H6 S6 => ?_
    walk_at "ev"
    rw [List.length_map]
    refine v_rep S6 (S6.got 0 rfl) (by omega) (by simp; omega) fun rp H7 S7 => ?_
    have er : (List.replicate (17 - (ds.length : Int)).toNat [V.int (1 + v)]).flatten = (List.replicate (17 - (ds.length : Int)).toNat (1 + v)).map V.int := by
      rw [List.map_replicate]
      simp
    rw [er] at S7
    refine v_cat S7 (S7.got 3 rfl) (S7.got 0 rfl) (by simp only [List.length_map, List.length_replicate]; omega) fun c H8 S8 => ?_
    rw [← List.map_append] at S8
    walk_at "ev"
    refine u_made S8 (fun H S => SqL.of (S.got 0 rfl)) fun m H7 S9 => ?_
    exact k _ _ (by walk_at "sub")
  refine g_next ?_
  walk_at "nx"
  walk_at "st"
  refine v_ifD (fun h => ?_) (fun h => ?_)
  · walk_at "st"
    refine v_lst S4 (by simp) fun me H5 S5 => ?_
    walk_at "ev"
    refine u_take (S5.at 1 rfl) (by decide) fun v H6 l u S6 => ?_
    obtain ⟨m, em⟩ := menuA (xs := [V.int 0, V.int 1, V.int 2, V.int 1000, V.int 1001, V.int 1002, V.int (1001 ^ (16 : Int).toNat), V.int (1001 ^ (16 : Int).toNat - 1), V.int (10 ^ (60 : Int).toNat), V.int 999]) (v := v) (by simp only [AllI, and_true]) l (by simp only [List.length_cons, List.length_nil]; omega)
    refine v_ixL (SqL.of (S6.got 1 rfl)) em ?_
    exact k _ _ (by walk_at "sub")
  refine g_next ?_
  walk_at "nx"
  walk_at "st"
  refine u_take S4 (by decide) fun v H5 l u S5 => ?_
  walk_at "ev"
  refine .inr (.inr (.inr ⟨55, 1 + v, rfl, rfl, by omega, by omega, ?_⟩))
  walk_at "ev"
  obtain ⟨n, en⟩ := seven_ok (1 + v).toNat (by omega) (by omega)
  refine ⟨_, n, rfl, en, ?_, ?_, ?_⟩
  · rw [← Array.all_toList, List.all_eq_true]
    intro x hx
    have hx2 : x = 55 := by
      simp at hx
      exact hx.2
    rw [hx2]
    decide
  · rw [SX.S_len, List.length_replicate]
    have := sizeLine_eq
    omega
  · exact k _ _ (by walk_at "sub")
theorem u_bag {K : PySem.W.Frag} {Rs : List Res} {H : Hp} {a : Addr} {ns : List Int} {Q : VK} {E : XK} (S : M Rs H) (h : Ent Rs (fun H => SqL K H a (ns.map V.int))) (hl : ns.length ≤ 63) (k : ∀ bag H', M (bagR bag :: Rs) H' → Q (.ref bag) H') :
    sp_l_bag K ([.ref a] ++ []) H Q E := ⟨Rs, a, ns, rfl, S, h, hl, k⟩
def sp_law (K : PySem.W.Frag) : Sp := fun vs H Q _ => ∃ (a : Addr) (ns : List Int), vs = [.ref a] ∧ SqL K H a (ns.map V.int) ∧ ns.length ≤ 63 ∧ ∀ H', Q (.bl true) H'
theorem len_law {K : PySem.W.Frag} (vs : List V) (H : Hp) (Q : VK) (E : XK) (h : sp_law K vs H Q E) : vs.length = 1 := by
  obtain ⟨x, y, rfl, _⟩ := h
  rfl
theorem law_start (K : PySem.W.Frag) (H : Hp) (a : Addr) (ns : List Int) (hl : ns.length ≤ 63) (hS : SqL K H a (ns.map V.int)) : sp_law K [.ref a] H (fun v _ => v = .bl true) fun _ _ _ => False := ⟨a, ns, rfl, hS, hl, fun _ => rfl⟩
abbrev t_law_9 (K : PySem.W.Frag) : TS := (tSeq (tDrop (tBM K "list" rAppend (tVar 6) (tCons (tC (.int 5)) tNil)))
  (tAsg (tC (.int 999)) (gSub (tVar 6) (tC (.int 0)) uSet)))
abbrev t_law_8 (K : PySem.W.Frag) : TS := (tIfS (tTest (tOp rNotN (tVar 6) (tC .non))) (t_law_9 K) tNext)
abbrev t_law_6 (K : PySem.W.Frag) : TS := (tSeq (tIfS (tNot (tB (tCall (sp_l_alike K) [] E0 (tCons (tVar 6) (tCons (tCall (sp_l_back K) [] E0 (tCons (tVar 4) tNil)) tNil))))) (tRet (tC (.bl false))) tNext)
  (t_law_8 K))
abbrev t_law_5 (K : PySem.W.Frag) : TS := (tSeq (tAsg (tCall (sp_signs_of K) [] E0 (tCons (tVar 4) tNil)) (gName 6))
  (t_law_6 K))
abbrev t_law_4 (K : PySem.W.Frag) : TS := (tFor (iList K (tVar 2)) (gName 4) (t_law_5 K))
abbrev t_law_3 (K : PySem.W.Frag) : TS := (tSeq (tFor (iRng1 (tCons (tC (.int 2)) tNil)) (gName 3) (t_law_4 K))
  (tRet (tC (.bl true))))
abbrev t_law_2 (K : PySem.W.Frag) : TS := (tSeq (tAsg (tLc (iRng1 (tCons (tOp (uAdd K) (tC (.int 1)) (tCall (sp_l_take K) [] E0 (tCons (tVar 1) (tCons (tC (.int 8)) tNil)))) tNil)) (gName 5) tYes (tCall (sp_l_number K) [] E0 (tCons (tVar 1) tNil)) [5]) (gName 2))
  (t_law_3 K))
abbrev t_law_1 (K : PySem.W.Frag) : TS := (tSeq (tAsg (tCall (sp_l_bag K) [] E0 (tCons (tVar 0) tNil)) (gName 1))
  (t_law_2 K))
abbrev t_law (K : PySem.W.Frag) : TS := (t_law_1 K)
theorem pure_law {K : PySem.W.Frag} (vs : List V) (H : Hp) (Q : VK) (E : XK) (h : sp_law K vs H Q E) : t_law K { nx := fun _ H' => Q .non H', rt := Q } (start ["_law_script", "_law_bag_here", "_law_numbers", "_law_turn", "_law_number_here", "_law_k", "_law_told"] vs) H := by
  obtain ⟨a, ns, rfl, hS, hl, k⟩ := h
  show t_law K _ [some (V.ref a), none, none, none, none, none, none] H
  have S := M.start hS
  walk_at "go"
  refine u_bag S (fun H S => S.gotR 0 rfl) hl fun bag H1 S1 => ?_
  walk_at "go"
  refine u_take S1 (by decide) fun v1 H2 l1 u1 S2 => ?_
  walk_at "go"
  refine v_itR (by omega) ?_
  have S3 : M (bagR bag :: []) H2 := by walk_at "sub"
  refine lc_W walk_range S3 (fun i acc => ∃ ms : List Int, acc = ms.map V.int ∧ ms.length = i) ⟨[], rfl, rfl⟩ (fun _ _ => trivial) ?_ ?_
  · rintro i x acc L H3 H4 hi ⟨ms, rfl, hm⟩ S ⟨rfl, rfl⟩
    walk_at "go"
    refine ⟨_, bag, rfl, S.at 1 rfl, fun m H5 S5 => ?_⟩
    refine lc_next S5 1 rfl (by rw [List.length_map]; omega) fun H6 S6 => ⟨_, ⟨ms ++ [m], (List.map_append ..).symm, by simp [hm]⟩, ?_⟩
    walk_at "sub"
  rintro nu acc H3 ⟨ms, rfl, hm⟩ S4
  clear S S1 S2 S3
  walk_at "go"
  refine v_itR (by decide) ?_
  refine for_W walk_range (fun i σ H' => ∃ (x3 x4 x6 : Option V), σ = [some (V.ref a), some (V.ref bag), some (V.ref nu), x3, x4, none, x6] ∧ M (pt nu (.lst (ms.map V.int)) :: []) H') ⟨none, none, none, rfl, by walk_at "sub"⟩ (fun _ _ _ _ _ => trivial) ?_ ?_
  · rintro i x σ H5 H6 hi ⟨x3, x4, x6, rfl, S⟩ ⟨rfl, rfl⟩
    walk_at "go"
    refine v_itL (SqL.of (S.got 0 rfl)) ?_
    refine for_W walk_list (fun j σ H' => ∃ (x4 x6 : Option V), σ = [some (V.ref a), some (V.ref bag), some (V.ref nu), some (V.int (0 + (i : Int))), x4, none, x6] ∧ M (pt nu (.lst (ms.map V.int)) :: []) H') ⟨x4, x6, rfl, S⟩ (fun _ _ _ _ ⟨_, _, _, S⟩ => SqL.of (S.got 0 rfl)) ?_ ?_
    · rintro j x σ H7 H8 hj ⟨y4, y6, rfl, S⟩ ⟨rfl, hx⟩
      obtain ⟨n, hn, rfl⟩ := ints_get hx
      walk_at "go"
      refine ⟨_, n, rfl, S, fun e H9 S9 => ?_, fun ds e p H9 S9 => ?_⟩
      · walk_at "go"
        refine ⟨_, n, rfl, S9, fun _ H10 S10 => ?_, fun ds e2 => by (have z := e.symm.trans e2; cases z)⟩
        walk_at "go"
        refine u_alike (d := .none) .non .non (Sh.none.shw (by decide) (by decide)) ?_
        walk_at "go"
        rw [decide_eq_true rfl]
        walk_at "go"
        exact ⟨_, _, rfl, S10⟩
      · walk_at "go"
        refine ⟨_, n, rfl, S9, fun e2 => by (have z := e.symm.trans e2; cases z), fun ds2 e2 q H10 S10 => ?_⟩
        rw [e] at e2
        cases e2
        have hds : ds ≠ [] ∧ ds.length ≤ 16 ∧ ds = digsI n := by
          unfold backN at e
          split at e
          · cases e
          · rename_i hn
            cases e
            exact ⟨fun z => hn (Or.inl z), by omega, rfl⟩
        have hb : ∀ m ∈ ds, m.natAbs < 2 ^ 1000 := by
          have q : (2000 : Nat) < 2 ^ 1000 := by decide +kernel
          intro m hm2
          rw [hds.2.2] at hm2
          have := digsI_le n m hm2
          omega
        have sw : Shw (dI ds) := (Sh.ints (k := 16) hb hds.2.1).shw (by decide) (by decide)
        walk_at "go"
        refine u_alike (dp_ints (SqL.of (S10.got 1 rfl))) (dp_ints (SqL.of (S10.got 0 rfl))) sw ?_
        walk_at "go"
        rw [show decide (V.ref p = V.non) = false from rfl]
        walk_at "go"
        refine v_tyL (SqL.of (S10.got 1 rfl)) ?_
        walk_at "go"
        refine v_app S10 1 rfl (by rw [List.length_map]; omega) fun H11 S11 => ?_
        walk_at "go"
        refine v_set S11 1 rfl (ixN_int (Int.le_refl 0) (by simp only [List.length_append, List.length_map, List.length_cons]; omega)) fun H12 S12 => ?_
        walk_at "go"
        exact ⟨_, _, rfl, by walk_at "sub"⟩
    · rintro σ H7 ⟨y4, y6, rfl, S⟩
      walk_at "go"
      exact ⟨_, _, _, rfl, S⟩
  · rintro σ H5 ⟨x3, x4, x6, rfl, S⟩
    walk_at "go"
    exact k _
section
variable {P : Program} {w : World} {K : PySem.W.Frag} {mg : Str → Option Value} {base : Heap}
theorem sc_l_bag : FnScope ["_law_script", "_law_cell"] ["_law_script"] (defScope s_l_bag) := ⟨rfl, rfl, rfl, by decide +kernel, rfl, by decide +kernel, by decide +kernel⟩
theorem bd_l_bag (T : Txt K mg) : Binds K (fdOf K (He.ga K "_law_bag")) ["_law_script"] [] := T.F_l_bag.bindsN fun _ _ _ _ _ _ us hl => match us, hl with | [_], _ => rfl
theorem ok_l_bag (T : Txt K mg) (nd : base.NoDigits) : FnX false P w K mg base CX0 1 (He.ga K "_law_bag") (fdOf K (He.ga K "_law_bag")) ["_law_script"] (sp_l_bag K) := by
  refine okX T.F_l_bag sc_l_bag len_l_bag (fun cdv A outer s H vs Q E hgu0 hr h => ⟨t_l_bag K, PSs.nox ?_, pure_l_bag vs H Q E h⟩)
  exact (pss_one (ps_ret (pe_lst (pa_cons pe_int (pa_cons pe_int (pa_cons pe_int (pa_cons (pe_lc (own := [("_law_cell", 1)]) (g := (gName 1)) (tt := tYes) rfl sc_l_bag.nd (pi_list (pe_slice sl_any (pv 0) po_none (po_some pe_int))) (blkOk_by (own := [("_law_cell", 1)]) (N := ["_law_script", "_law_cell"]) (sc := defScope s_l_bag) (by decide +kernel)) (fun _ _ _ _ _ => (pg_name (i := 1) sc_l_bag.nd rfl (by first | exact Or.inl rfl | exact Or.inr rfl))) (fun _ _ _ _ _ => pts_nil) (fun _ _ _ _ _ => (pe_callB cr_abs (by rfl) T.b_abs (by decide +kernel) (pa_cons (pv 1) pa_nil)))) pa_nil)))))))
theorem sc_l_take : FnScope ["_law_bag_here", "_law_many", "_law_first", "_law_second", "_law_cell", "_law_value"] ["_law_bag_here", "_law_many"] (defScope s_l_take) := ⟨rfl, rfl, rfl, by decide +kernel, rfl, by decide +kernel, by decide +kernel⟩
theorem bd_l_take (T : Txt K mg) : Binds K (fdOf K (He.ga K "_law_take")) ["_law_bag_here", "_law_many"] [] := T.F_l_take.bindsN fun _ _ _ _ _ _ us hl => match us, hl with | [_, _], _ => rfl
theorem ok_l_take (T : Txt K mg) (nd : base.NoDigits) : FnX false P w K mg base CX0 1 (He.ga K "_law_take") (fdOf K (He.ga K "_law_take")) ["_law_bag_here", "_law_many"] (sp_l_take K) := by
  refine okX T.F_l_take sc_l_take len_l_take (fun cdv A outer s H vs Q E hgu0 hr h => ⟨t_l_take K, PSs.nox ?_, pure_l_take vs H Q E h⟩)
  exact (pss_cons (ps_if (pt_cmpR (uo_eq hr.units) (pe_ix ix_any (pv 0) pe_int (fun _ _ => rfl)) pe_int (nomark _)) (pss_cons (ps_set (i := 4) sc_l_take.nd rfl (by first | exact Or.inl rfl | exact Or.inr rfl) pe_int)
      (pss_cons (ps_if (pt_cmpR uo_lt (pe_ix ix_any (pv 0) pe_int (fun _ _ => rfl)) (pe_callB cr_len (by rfl) T.b_len (by decide +kernel) (pa_cons (pe_ix ix_any (pv 0) pe_int (fun _ _ => rfl)) pa_nil)) (nomark _)) (pss_one (ps_set (i := 4) sc_l_take.nd rfl (by first | exact Or.inl rfl | exact Or.inr rfl) (pe_ix ix_any (pe_ix ix_any (pv 0) pe_int (fun _ _ => rfl)) (pe_ix ix_any (pv 0) pe_int (fun _ _ => rfl)) (fun _ _ => rfl)))) pss_nil)
      (pss_cons (ps_augS (pv 0) pe_int (get_any (hu_of hr)) pe_int (ip_of io_add) (set_any (hu_of hr)))
      (pss_cons (ps_if (pt_cmpR uo_ge (pv 4) pe_int (nomark _)) (pss_one (ps_asg (pv 4) (pg_sub (pv 0) pe_int (set_any (hu_of hr))))) pss_nil)
      (pss_one (ps_asg (pe_op uo_mod (pe_op uo_add (pe_op uo_add (pe_op uo_mul (pe_ix ix_any (pv 0) pe_int (fun _ _ => rfl)) pe_int) (pe_op uo_mod (pv 4) pe_int)) (pe_op uo_mul pe_int (pe_ix ix_any (pv 0) pe_int (fun _ _ => rfl)))) pe_int) (pg_sub (pv 0) pe_int (set_any (hu_of hr))))))))) pss_nil)
      (pss_cons (ps_if (pt_cmpR uo_gt (pe_ix ix_any (pv 0) pe_int (fun _ _ => rfl)) pe_int (nomark _)) (pss_cons (ps_set (i := 5) sc_l_take.nd rfl (by first | exact Or.inl rfl | exact Or.inr rfl) (pe_op uo_mod (pe_ix ix_any (pv 0) pe_int (fun _ _ => rfl)) (pv 1)))
      (pss_cons (ps_asg (pe_op uo_div (pe_ix ix_any (pv 0) pe_int (fun _ _ => rfl)) (pv 1)) (pg_sub (pv 0) pe_int (set_any (hu_of hr))))
      (pss_one (ps_ret (pv 5))))) pss_nil)
      (pss_cons (ps_set (i := 2) sc_l_take.nd rfl (by first | exact Or.inl rfl | exact Or.inr rfl) (pe_op uo_mod (pe_op uo_mul (pe_op uo_add (pe_ix ix_any (pv 0) pe_int (fun _ _ => rfl)) pe_int) pe_int) pe_int))
      (pss_cons (ps_set (i := 3) sc_l_take.nd rfl (by first | exact Or.inl rfl | exact Or.inr rfl) (pe_op uo_mod (pe_op uo_mul (pe_op uo_mod (pe_op uo_mul (pv 2) (pv 2)) pe_int) pe_int) pe_int))
      (pss_cons (ps_if (pt_cmpR uo_gt (pv 1) pe_int (nomark _)) (pss_one (ps_ret (pe_op uo_mod (pe_op uo_add (pe_op uo_mul (pv 3) pe_int) (pv 2)) (pv 1)))) pss_nil)
      (pss_one (ps_ret (pe_op uo_mod (pe_op uo_div (pv 3) pe_int) (pv 1)))))))))
theorem sc_l_signs : FnScope ["_law_bag_here", "_law_many", "_law_top", "_law_found", "_law_k"] ["_law_bag_here"] (defScope s_l_signs) := ⟨rfl, rfl, rfl, by decide +kernel, rfl, by decide +kernel, by decide +kernel⟩
theorem bd_l_signs (T : Txt K mg) : Binds K (fdOf K (He.ga K "_law_signs")) ["_law_bag_here"] [] := T.F_l_signs.bindsN fun _ _ _ _ _ _ us hl => match us, hl with | [_], _ => rfl
theorem ok_l_signs (T : Txt K mg) (nd : base.NoDigits) : FnX false P w K mg base CX0 2 (He.ga K "_law_signs") (fdOf K (He.ga K "_law_signs")) ["_law_bag_here"] (sp_l_signs K) := by
  refine okX T.F_l_signs sc_l_signs len_l_signs (fun cdv A outer s H vs Q E hgu0 hr h => ⟨t_l_signs K, PSs.nox ?_, pure_l_signs vs H Q E h⟩)
  exact (pss_cons (ps_set (i := 1) sc_l_signs.nd rfl (by first | exact Or.inl rfl | exact Or.inr rfl) (pe_ix ix_any (pe_lst (pa_cons pe_int (pa_cons pe_int (pa_cons (pe_op uo_add pe_int (pe_callX (ok_l_take T nd) (fun z => nomatch z) hr rfl T.g_l_take T.F_l_take.kp (bd_l_take T) .nil pass0 (pa_cons (pv 0) (pa_cons pe_int pa_nil)))) (pa_cons pe_int pa_nil))))) (pe_callX (ok_l_take T nd) (fun z => nomatch z) hr rfl T.g_l_take T.F_l_take.kp (bd_l_take T) .nil pass0 (pa_cons (pv 0) (pa_cons pe_int pa_nil))) (fun _ _ => rfl)))
      (pss_cons (ps_set (i := 2) sc_l_signs.nd rfl (by first | exact Or.inl rfl | exact Or.inr rfl) (pe_ix ix_any (pe_lst (pa_cons pe_int (pa_cons pe_int (pa_cons pe_int pa_nil)))) (pe_callX (ok_l_take T nd) (fun z => nomatch z) hr rfl T.g_l_take T.F_l_take.kp (bd_l_take T) .nil pass0 (pa_cons (pv 0) (pa_cons pe_int pa_nil))) (fun _ _ => rfl)))
      (pss_cons (ps_setLc (i := 3) (own := [("_law_k", 4)]) (g := (gName 4)) (tt := tYes) rfl sc_l_signs.nd rfl rfl (sw_true rfl rfl rfl (by decide +kernel)) (pi_range1 (by rfl) T.b_range (pa_cons (pv 1) pa_nil)) (blkOk_by (own := [("_law_k", 4)]) (N := ["_law_bag_here", "_law_many", "_law_top", "_law_found", "_law_k"]) (sc := defScope s_l_signs) (by decide +kernel)) (fun _ _ _ _ _ => (pg_name (i := 4) sc_l_signs.nd rfl (by first | exact Or.inl rfl | exact Or.inr rfl))) (fun _ _ _ _ _ => pts_nil) (fun _ _ _ _ _ => (pe_callX (ok_l_take T nd) (fun z => nomatch z) hr rfl T.g_l_take T.F_l_take.kp (bd_l_take T) .nil pass0 (pa_cons (pv 0) (pa_cons (pv 2) pa_nil)))))
      (pss_cons (ps_if (pt_cmpR (uo_eq hr.units) (pe_callX (ok_l_take T nd) (fun z => nomatch z) hr rfl T.g_l_take T.F_l_take.kp (bd_l_take T) .nil pass0 (pa_cons (pv 0) (pa_cons pe_int pa_nil))) pe_int (nomark _)) (pss_one (ps_asg pe_int (pg_sub (pv 3) (pe_callX (ok_l_take T nd) (fun z => nomatch z) hr rfl T.g_l_take T.F_l_take.kp (bd_l_take T) .nil pass0 (pa_cons (pv 0) (pa_cons (pv 1) pa_nil))) (set_any (hu_of hr))))) pss_nil)
      (pss_one (ps_ret (pv 3)))))))
theorem sc_l_sum : FnScope ["_law_signs_here", "_law_found", "_law_times", "_law_sign"] ["_law_signs_here"] (defScope s_l_sum) := ⟨rfl, rfl, rfl, by decide +kernel, rfl, by decide +kernel, by decide +kernel⟩
theorem bd_l_sum (T : Txt K mg) : Binds K (fdOf K (He.ga K "_law_sum")) ["_law_signs_here"] [] := T.F_l_sum.bindsN fun _ _ _ _ _ _ us hl => match us, hl with | [_], _ => rfl
theorem ok_l_sum (T : Txt K mg) (nd : base.NoDigits) : FnX false P w K mg base CX0 1 (He.ga K "_law_sum") (fdOf K (He.ga K "_law_sum")) ["_law_signs_here"] (sp_l_sum K) := by
  refine okX T.F_l_sum sc_l_sum len_l_sum (fun cdv A outer s H vs Q E hgu0 hr h => ⟨t_l_sum K, PSs.nox ?_, pure_l_sum vs H Q E h⟩)
  exact (pss_cons (ps_set (i := 1) sc_l_sum.nd rfl (by first | exact Or.inl rfl | exact Or.inr rfl) pe_int)
      (pss_cons (ps_set (i := 2) sc_l_sum.nd rfl (by first | exact Or.inl rfl | exact Or.inr rfl) pe_int)
      (pss_cons (ps_for PassesOwn.never rfl (pi_list (pv 0)) (pg_name (i := 3) sc_l_sum.nd rfl (by first | exact Or.inl rfl | exact Or.inr rfl)) (pss_cons (ps_aug (i := 1) sc_l_sum.nd rfl (by first | exact Or.inl rfl | exact Or.inr rfl) (pe_op uo_mul (pe_op uo_add (pv 3) pe_int) (pv 2)) (ip_of io_add))
      (pss_one (ps_aug (i := 2) sc_l_sum.nd rfl (by first | exact Or.inl rfl | exact Or.inr rfl) pe_int (ip_of io_mul)))))
      (pss_one (ps_ret (pv 1))))))
theorem sc_l_made : FnScope ["_law_digits", "_law_found", "_law_digit"] ["_law_digits"] (defScope s_l_made) := ⟨rfl, rfl, rfl, by decide +kernel, rfl, by decide +kernel, by decide +kernel⟩
theorem bd_l_made (T : Txt K mg) : Binds K (fdOf K (He.ga K "_law_made")) ["_law_digits"] [] := T.F_l_made.bindsN fun _ _ _ _ _ _ us hl => match us, hl with | [_], _ => rfl
theorem ok_l_made (T : Txt K mg) (nd : base.NoDigits) : FnX false P w K mg base CX0 1 (He.ga K "_law_made") (fdOf K (He.ga K "_law_made")) ["_law_digits"] (sp_l_made K) := by
  refine okX T.F_l_made sc_l_made len_l_made (fun cdv A outer s H vs Q E hgu0 hr h => ⟨t_l_made K, PSs.nox ?_, pure_l_made vs H Q E h⟩)
  exact (pss_cons (ps_set (i := 1) sc_l_made.nd rfl (by first | exact Or.inl rfl | exact Or.inr rfl) pe_int)
      (pss_cons (ps_for PassesOwn.never rfl (pi_list (pe_revL (pv 0))) (pg_name (i := 2) sc_l_made.nd rfl (by first | exact Or.inl rfl | exact Or.inr rfl)) (pss_one (ps_set (i := 1) sc_l_made.nd rfl (by first | exact Or.inl rfl | exact Or.inr rfl) (pe_op uo_add (pe_op uo_mul (pv 1) pe_int) (pv 2)))))
      (pss_one (ps_ret (pv 1)))))
theorem sc_l_number : FnScope ["_law_bag_here", "_law_way", "_law_signs_here", "_law_seal", "_law_digits", "_law_sign"] ["_law_bag_here"] (defScope s_l_number) := ⟨rfl, rfl, rfl, by decide +kernel, rfl, by decide +kernel, by decide +kernel⟩
theorem bd_l_number (T : Txt K mg) : Binds K (fdOf K (He.ga K "_law_number")) ["_law_bag_here"] [] := T.F_l_number.bindsN fun _ _ _ _ _ _ us hl => match us, hl with | [_], _ => rfl
theorem ok_l_number (T : Txt K mg) (nd : base.NoDigits) : FnX false P w K mg base CX0 3 (He.ga K "_law_number") (fdOf K (He.ga K "_law_number")) ["_law_bag_here"] (sp_l_number K) := by
  refine okX T.F_l_number sc_l_number len_l_number (fun cdv A outer s H vs Q E hgu0 hr h => ⟨t_l_number K, PSs.nox ?_, pure_l_number vs H Q E h⟩)
  exact (pss_cons (ps_set (i := 1) sc_l_number.nd rfl (by first | exact Or.inl rfl | exact Or.inr rfl) (pe_callX (ok_l_take T nd) (fun z => nomatch z) (hr.mono (by decide)) rfl T.g_l_take T.F_l_take.kp (bd_l_take T) .nil pass0 (pa_cons (pv 0) (pa_cons pe_int pa_nil))))
      (pss_cons (ps_set (i := 2) sc_l_number.nd rfl (by first | exact Or.inl rfl | exact Or.inr rfl) (pe_callX (ok_l_signs T nd) (fun z => nomatch z) hr rfl T.g_l_signs T.F_l_signs.kp (bd_l_signs T) .nil pass0 (pa_cons (pv 0) pa_nil)))
      (pss_cons (ps_set (i := 3) sc_l_number.nd rfl (by first | exact Or.inl rfl | exact Or.inr rfl) (pe_callX (ok_l_sum T nd) (fun z => nomatch z) (hr.mono (by decide)) rfl T.g_l_sum T.F_l_sum.kp (bd_l_sum T) .nil pass0 (pa_cons (pv 2) pa_nil)))
      (pss_cons (ps_setLc (i := 4) (own := [("_law_sign", 5)]) (g := (gName 5)) (tt := tYes) rfl sc_l_number.nd rfl rfl (sw_true rfl rfl rfl (by decide +kernel)) (pi_list (pv 2)) (blkOk_by (own := [("_law_sign", 5)]) (N := ["_law_bag_here", "_law_way", "_law_signs_here", "_law_seal", "_law_digits", "_law_sign"]) (sc := defScope s_l_number) (by decide +kernel)) (fun _ _ _ _ _ => (pg_name (i := 5) sc_l_number.nd rfl (by first | exact Or.inl rfl | exact Or.inr rfl))) (fun _ _ _ _ _ => pts_nil) (fun _ _ _ _ _ => (pe_op uo_add (pv 5) pe_int)))
      (pss_cons (ps_if (pt_cmpR uo_lt (pv 1) pe_int (nomark _)) (pss_one (ps_ret (pv 3))) pss_nil)
      (pss_cons (ps_if (pt_cmpR uo_lt (pv 1) pe_int (nomark _)) (pss_one (ps_ret (pe_ix ix_any (pe_lst (pa_cons (pe_op uo_add (pv 3) pe_int) (pa_cons (pe_op uo_sub (pv 3) pe_int) (pa_cons (pe_op uo_mul (pv 3) pe_int) (pa_cons (pe_un un_neg (pv 3)) pa_nil))))) (pe_op uo_sub (pv 1) pe_int) (fun _ _ => rfl)))) pss_nil)
      (pss_cons (ps_if (pt_cmpR uo_lt (pv 1) pe_int (nomark _)) (pss_cons (ps_asg pe_int (pg_sub (pv 4) (pe_callX (ok_l_take T nd) (fun z => nomatch z) (hr.mono (by decide)) rfl T.g_l_take T.F_l_take.kp (bd_l_take T) .nil pass0 (pa_cons (pv 0) (pa_cons (pe_callB cr_len (by rfl) T.b_len (by decide +kernel) (pa_cons (pv 4) pa_nil)) pa_nil))) (set_any (hu_of hr))))
      (pss_one (ps_ret (pe_callX (ok_l_made T nd) (fun z => nomatch z) (hr.mono (by decide)) rfl T.g_l_made T.F_l_made.kp (bd_l_made T) .nil pass0 (pa_cons (pv 4) pa_nil))))) pss_nil)
      (pss_cons (ps_if (pt_cmpR (uo_eq hr.units) (pv 1) pe_int (nomark _)) (pss_one (ps_ret (pe_callX (ok_l_made T nd) (fun z => nomatch z) (hr.mono (by decide)) rfl T.g_l_made T.F_l_made.kp (bd_l_made T) .nil pass0 (pa_cons (pe_op uo_add (pv 4) (pe_op uo_mul (pe_lst (pa_cons (pe_op uo_add pe_int (pe_callX (ok_l_take T nd) (fun z => nomatch z) (hr.mono (by decide)) rfl T.g_l_take T.F_l_take.kp (bd_l_take T) .nil pass0 (pa_cons (pv 0) (pa_cons pe_int pa_nil)))) pa_nil)) (pe_op uo_sub pe_int (pe_callB cr_len (by rfl) T.b_len (by decide +kernel) (pa_cons (pv 4) pa_nil))))) pa_nil)))) pss_nil)
      (pss_cons (ps_if (pt_cmpR (uo_eq hr.units) (pv 1) pe_int (nomark _)) (pss_one (ps_ret (pe_ix ix_any (pe_lst (pa_cons pe_int (pa_cons pe_int (pa_cons pe_int (pa_cons pe_int (pa_cons pe_int (pa_cons pe_int (pa_cons (pe_op uo_pow pe_int pe_int) (pa_cons (pe_op uo_sub (pe_op uo_pow pe_int pe_int) pe_int) (pa_cons (pe_op uo_pow pe_int pe_int) (pa_cons pe_int pa_nil))))))))))) (pe_callX (ok_l_take T nd) (fun z => nomatch z) (hr.mono (by decide)) rfl T.g_l_take T.F_l_take.kp (bd_l_take T) .nil pass0 (pa_cons (pv 0) (pa_cons pe_int pa_nil))) (fun _ _ => rfl)))) pss_nil)
      (pss_one (ps_ret (pe_callTy (cr_intT nd) (by rfl) T.b_int (by decide +kernel) (pa_cons (pe_op uo_mul pe_str (pe_op uo_add pe_int (pe_callX (ok_l_take T nd) (fun z => nomatch z) (hr.mono (by decide)) rfl T.g_l_take T.F_l_take.kp (bd_l_take T) .nil pass0 (pa_cons (pv 0) (pa_cons pe_int pa_nil))))) pa_nil)))))))))))))
theorem sc_is_whole : FnScope ["thing"] ["thing"] (defScope s_is_whole) := ⟨rfl, rfl, rfl, by decide +kernel, rfl, by decide +kernel, by decide +kernel⟩
theorem bd_is_whole (T : Txt K mg) : Binds K (fdOf K (He.ga K "is_whole")) ["thing"] [] := T.F_is_whole.bindsN fun _ _ _ _ _ _ us hl => match us, hl with | [_], _ => rfl
theorem ok_is_whole (T : Txt K mg) (nd : base.NoDigits) : FnX false P w K mg base CX0 1 (He.ga K "is_whole") (fdOf K (He.ga K "is_whole")) ["thing"] (sp_is_whole K) := by
  refine okX T.F_is_whole sc_is_whole len_is_whole (fun cdv A outer s H vs Q E hgu0 hr h => ⟨t_is_whole K, PSs.nox ?_, pure_is_whole vs H Q E h⟩)
  exact (pss_one (ps_ret (pe_and (pe_callB call_isi (by rfl) T.b_isinstance (by decide +kernel) (pa_cons (pv 0) (pa_cons (pe_bltn (by rfl) T.b_int (by decide +kernel) rfl) pa_nil))) (pe_one (pe_not (pe_callB call_isi (by rfl) T.b_isinstance (by decide +kernel) (pa_cons (pv 0) (pa_cons (pe_bltn (by rfl) T.b_bool (by decide +kernel) rfl) pa_nil))))))))
theorem sc_is_seal : FnScope ["thing", "rest", "turn"] ["thing"] (defScope s_is_seal) := ⟨rfl, rfl, rfl, by decide +kernel, rfl, by decide +kernel, by decide +kernel⟩
theorem bd_is_seal (T : Txt K mg) : Binds K (fdOf K (He.ga K "is_seal")) ["thing"] [] := T.F_is_seal.bindsN fun _ _ _ _ _ _ us hl => match us, hl with | [_], _ => rfl
theorem ok_is_seal (T : Txt K mg) (nd : base.NoDigits) : FnX false P w K mg base CX0 2 (He.ga K "is_seal") (fdOf K (He.ga K "is_seal")) ["thing"] (sp_is_seal K) := by
  refine okX T.F_is_seal sc_is_seal len_is_seal (fun cdv A outer s H vs Q E hgu0 hr h => ⟨t_is_seal K, PSs.nox ?_, pure_is_seal vs H Q E h⟩)
  exact (pss_cons (ps_if (PW.pt (pw_or (pt_not (pt_val (pe_callX (ok_is_whole T nd) (fun z => nomatch z) hr rfl T.g_is_whole T.F_is_whole.kp (bd_is_whole T) .nil pass0 (pa_cons (pv 0) pa_nil)))) (pw_or1 (pt_cmpR uo_lt (pv 0) pe_int (nomark _))))) (pss_one (ps_ret pe_bl)) pss_nil)
      (pss_cons (ps_set (i := 1) sc_is_seal.nd rfl (by first | exact Or.inl rfl | exact Or.inr rfl) (pv 0))
      (pss_cons (ps_for PassesOwn.never rfl (pi_range1 (by rfl) T.b_range (pa_cons (pe_globI rfl T.c_MOST_PIECE) pa_nil)) (pg_name (i := 2) sc_is_seal.nd rfl (by first | exact Or.inl rfl | exact Or.inr rfl)) (pss_cons (ps_if (pt_cmpR (uo_eq hr.units) (pe_op uo_mod (pv 1) (pe_globI rfl T.c_BASE)) pe_int (nomark _)) (pss_one (ps_ret pe_bl)) pss_nil)
      (pss_cons (ps_aug (i := 1) sc_is_seal.nd rfl (by first | exact Or.inl rfl | exact Or.inr rfl) (pe_globI rfl T.c_BASE) (ip_of io_div))
      (pss_one (ps_if (pt_cmpR (uo_eq hr.units) (pv 1) pe_int (nomark _)) (pss_one (ps_ret pe_bl)) pss_nil)))))
      (pss_one (ps_ret pe_bl)))))
theorem sc_signs_of : FnScope ["number", "found", "rest"] ["number"] (defScope s_signs_of) := ⟨rfl, rfl, rfl, by decide +kernel, rfl, by decide +kernel, by decide +kernel⟩
theorem bd_signs_of (T : Txt K mg) : Binds K (fdOf K (He.ga K "signs_of")) ["number"] [] := T.F_signs_of.bindsN fun _ _ _ _ _ _ us hl => match us, hl with | [_], _ => rfl
theorem ok_signs_of (T : Txt K mg) (nd : base.NoDigits) : FnX false P w K mg base CX0 3 (He.ga K "signs_of") (fdOf K (He.ga K "signs_of")) ["number"] (sp_signs_of K) := by
  refine okX T.F_signs_of sc_signs_of len_signs_of (fun cdv A outer s H vs Q E hgu0 hr h => ⟨t_signs_of K, PSs.nox ?_, pure_signs_of vs H Q E h⟩)
  exact (pss_cons (ps_if (pt_not (pt_val (pe_callX (ok_is_whole T nd) (fun z => nomatch z) (hr.mono (by decide)) rfl T.g_is_whole T.F_is_whole.kp (bd_is_whole T) .nil pass0 (pa_cons (pv 0) pa_nil)))) (pss_one ps_never) pss_nil)
      (pss_cons (ps_if (pt_not (pt_val (pe_callX (ok_is_seal T nd) (fun z => nomatch z) hr rfl T.g_is_seal T.F_is_seal.kp (bd_is_seal T) .nil pass0 (pa_cons (pv 0) pa_nil)))) (pss_one (ps_ret pe_non)) pss_nil)
      (pss_cons (ps_set (i := 1) sc_signs_of.nd rfl (by first | exact Or.inl rfl | exact Or.inr rfl) (pe_lst pa_nil))
      (pss_cons (ps_set (i := 2) sc_signs_of.nd rfl (by first | exact Or.inl rfl | exact Or.inr rfl) (pv 0))
      (pss_cons (ps_while PassesOwn.never (pt_cmpR uo_gt (pv 2) pe_int (nomark _)) (pss_cons (ps_expr (pe_bm PySem.F.plainAttrs_list PySem.F.slot_list_append PySem.F.type_list_append mt_append (pv 1) (pa_cons (pe_op uo_sub (pe_op uo_mod (pv 2) (pe_globI rfl T.c_BASE)) pe_int) pa_nil)))
      (pss_one (ps_aug (i := 2) sc_signs_of.nd rfl (by first | exact Or.inl rfl | exact Or.inr rfl) (pe_globI rfl T.c_BASE) (ip_of io_div)))))
      (pss_one (ps_ret (pv 1))))))))
theorem sc_l_alike : FnScope ["_law_found", "_law_due"] ["_law_found", "_law_due"] (defScope s_l_alike) := ⟨rfl, rfl, rfl, by decide +kernel, rfl, by decide +kernel, by decide +kernel⟩
theorem bd_l_alike (T : Txt K mg) : Binds K (fdOf K (He.ga K "_law_alike")) ["_law_found", "_law_due"] [] := T.F_l_alike.bindsN fun _ _ _ _ _ _ us hl => match us, hl with | [_, _], _ => rfl
theorem ok_l_alike (T : Txt K mg) (nd : base.NoDigits) : FnX true P w K mg base CX0 1 (He.ga K "_law_alike") (fdOf K (He.ga K "_law_alike")) ["_law_found", "_law_due"] (sp_l_alike K) := by
  refine okX T.F_l_alike sc_l_alike len_l_alike (fun cdv A outer s H vs Q E hgu0 hr h => ⟨t_l_alike K, PSs.nox ?_, pure_l_alike vs H Q E h⟩)
  have hgu : (A.deeper (envOfC "_law_alike" (defScope s_l_alike) s.heap.objs.size (He.ga K "_law_alike") cdv)).guards = some [] := hgu0 rfl
  exact (pss_one (ps_ret (pe_and (pe_cmpR (uo_eq hr.units) (pv 0) (pv 1) (nomark _)) (pe_one (pe_cmpR (uo_eq hr.units) (pe_callB (cr_repr hgu hr.units) (by rfl) T.b_repr (by decide +kernel) (pa_cons (pv 0) pa_nil)) (pe_callB (cr_repr hgu hr.units) (by rfl) T.b_repr (by decide +kernel) (pa_cons (pv 1) pa_nil)) (nomark _))))))
theorem sc_l_back : FnScope ["_law_number_here", "_law_rest", "_law_found"] ["_law_number_here"] (defScope s_l_back) := ⟨rfl, rfl, rfl, by decide +kernel, rfl, by decide +kernel, by decide +kernel⟩
theorem bd_l_back (T : Txt K mg) : Binds K (fdOf K (He.ga K "_law_back")) ["_law_number_here"] [] := T.F_l_back.bindsN fun _ _ _ _ _ _ us hl => match us, hl with | [_], _ => rfl
theorem ok_l_back (T : Txt K mg) (nd : base.NoDigits) : FnX false P w K mg base CX0 1 (He.ga K "_law_back") (fdOf K (He.ga K "_law_back")) ["_law_number_here"] (sp_l_back K) := by
  refine okX T.F_l_back sc_l_back len_l_back (fun cdv A outer s H vs Q E hgu0 hr h => ⟨t_l_back K, PSs.nox ?_, pure_l_back vs H Q E h⟩)
  exact (pss_cons (ps_par (by rfl) sc_l_back.nd rfl rfl (by decide) rfl rfl (pa_cons (pv 0) (pa_cons (pe_lst pa_nil) pa_nil)) (by rfl))
      (pss_cons (ps_while PassesOwn.never (PW.pt (pw_and (pt_cmpR uo_gt (pv 1) pe_int (nomark _)) (pw_and1 (pt_cmpR uo_lt (pe_callB cr_len (by rfl) T.b_len (by decide +kernel) (pa_cons (pv 2) pa_nil)) pe_int (nomark _))))) (pss_cons (ps_expr (pe_bm PySem.F.plainAttrs_list PySem.F.slot_list_append PySem.F.type_list_append mt_append (pv 2) (pa_cons (pe_op uo_sub (pe_op uo_mod (pv 1) pe_int) pe_int) pa_nil)))
      (pss_one (ps_set (i := 1) sc_l_back.nd rfl (by first | exact Or.inl rfl | exact Or.inr rfl) (pe_op uo_div (pv 1) pe_int)))))
      (pss_cons (ps_if (PW.pt (pw_or (pt_cmpR (uo_eq hr.units) (pv 2) (pe_lst pa_nil) (nomark _)) (pw_or (pt_cmpR uo_gt (pe_callB cr_len (by rfl) T.b_len (by decide +kernel) (pa_cons (pv 2) pa_nil)) pe_int (nomark _)) (pw_or1 (pt_cmpR (uo_in hr) (pe_un un_neg pe_int) (pv 2) (by rfl)))))) (pss_one (ps_ret pe_non)) pss_nil)
      (pss_one (ps_ret (pv 2))))))
theorem sc_law : FnScope ["_law_script", "_law_bag_here", "_law_numbers", "_law_turn", "_law_number_here", "_law_k", "_law_told"] ["_law_script"] (defScope s_law) := ⟨rfl, rfl, rfl, by decide +kernel, rfl, by decide +kernel, by decide +kernel⟩
theorem bd_law (T : Txt K mg) : Binds K (fdOf K (He.ga K "law")) ["_law_script"] [] := T.F_law.bindsN fun _ _ _ _ _ _ us hl => match us, hl with | [_], _ => rfl
theorem ok_law (T : Txt K mg) (nd : base.NoDigits) : FnX true P w K mg base CX0 4 (He.ga K "law") (fdOf K (He.ga K "law")) ["_law_script"] (sp_law K) := by
  refine okX T.F_law sc_law len_law (fun cdv A outer s H vs Q E hgu0 hr h => ⟨t_law K, PSs.nox ?_, pure_law vs H Q E h⟩)
  have hgu : (A.deeper (envOfC "law" (defScope s_law) s.heap.objs.size (He.ga K "law") cdv)).guards = some [] := hgu0 rfl
  exact (pss_cons (ps_set (i := 1) sc_law.nd rfl (by first | exact Or.inl rfl | exact Or.inr rfl) (pe_callX (ok_l_bag T nd) (fun z => nomatch z) (hr.mono (by decide)) rfl T.g_l_bag T.F_l_bag.kp (bd_l_bag T) .nil pass0 (pa_cons (pv 0) pa_nil)))
      (pss_cons (ps_setLc (i := 2) (own := [("_law_k", 5)]) (g := (gName 5)) (tt := tYes) rfl sc_law.nd rfl rfl (sw_true rfl rfl rfl (by decide +kernel)) (pi_range1 (by rfl) T.b_range (pa_cons (pe_op uo_add pe_int (pe_callX (ok_l_take T nd) (fun z => nomatch z) (hr.mono (by decide)) rfl T.g_l_take T.F_l_take.kp (bd_l_take T) .nil pass0 (pa_cons (pv 1) (pa_cons pe_int pa_nil)))) pa_nil)) (blkOk_by (own := [("_law_k", 5)]) (N := ["_law_script", "_law_bag_here", "_law_numbers", "_law_turn", "_law_number_here", "_law_k", "_law_told"]) (sc := defScope s_law) (by decide +kernel)) (fun _ _ _ _ _ => (pg_name (i := 5) sc_law.nd rfl (by first | exact Or.inl rfl | exact Or.inr rfl))) (fun _ _ _ _ _ => pts_nil) (fun _ _ _ _ _ => (pe_callX (ok_l_number T nd) (fun z => nomatch z) hr rfl T.g_l_number T.F_l_number.kp (bd_l_number T) .nil pass0 (pa_cons (pv 1) pa_nil))))
      (pss_cons (ps_for PassesOwn.never rfl (pi_range1 (by rfl) T.b_range (pa_cons pe_int pa_nil)) (pg_name (i := 3) sc_law.nd rfl (by first | exact Or.inl rfl | exact Or.inr rfl)) (pss_one (ps_for PassesOwn.never rfl (pi_list (pv 2)) (pg_name (i := 4) sc_law.nd rfl (by first | exact Or.inl rfl | exact Or.inr rfl)) (pss_cons (ps_set (i := 6) sc_law.nd rfl (by first | exact Or.inl rfl | exact Or.inr rfl) (pe_callX (ok_signs_of T nd) (fun z => nomatch z) hr rfl T.g_signs_of T.F_signs_of.kp (bd_signs_of T) .nil pass0 (pa_cons (pv 4) pa_nil)))
      (pss_cons (ps_if (pt_not (pt_val (pe_callX (ok_l_alike T nd) (fun _ => hgu) (hr.mono (by decide)) rfl T.g_l_alike T.F_l_alike.kp (bd_l_alike T) .nil pass0 (pa_cons (pv 6) (pa_cons (pe_callX (ok_l_back T nd) (fun z => nomatch z) (hr.mono (by decide)) rfl T.g_l_back T.F_l_back.kp (bd_l_back T) .nil pass0 (pa_cons (pv 4) pa_nil)) pa_nil))))) (pss_one (ps_ret pe_bl)) pss_nil)
      (pss_one (ps_if (pt_cmpR op_notN' (pv 6) pe_non (nomark _)) (pss_cons (ps_expr (pe_bm PySem.F.plainAttrs_list PySem.F.slot_list_append PySem.F.type_list_append mt_append (pv 6) (pa_cons pe_int pa_nil)))
      (pss_one (ps_asg pe_int (pg_sub (pv 6) pe_int (set_any (hu_of hr)))))) pss_nil)))))))
      (pss_one (ps_ret pe_bl)))))
end
def d_l_bag : He.DefD := ⟨("_law_bag", none), "_law_bag", "_law_bag", defArgs s_l_bag, defBody s_l_bag, defScope s_l_bag, [], []⟩
def d_l_take : He.DefD := ⟨("_law_take", none), "_law_take", "_law_take", defArgs s_l_take, defBody s_l_take, defScope s_l_take, [], []⟩
def d_l_signs : He.DefD := ⟨("_law_signs", none), "_law_signs", "_law_signs", defArgs s_l_signs, defBody s_l_signs, defScope s_l_signs, [], []⟩
def d_l_sum : He.DefD := ⟨("_law_sum", none), "_law_sum", "_law_sum", defArgs s_l_sum, defBody s_l_sum, defScope s_l_sum, [], []⟩
def d_l_made : He.DefD := ⟨("_law_made", none), "_law_made", "_law_made", defArgs s_l_made, defBody s_l_made, defScope s_l_made, [], []⟩
def d_l_number : He.DefD := ⟨("_law_number", none), "_law_number", "_law_number", defArgs s_l_number, defBody s_l_number, defScope s_l_number, [], []⟩
def d_is_whole : He.DefD := ⟨("is_whole", none), "is_whole", "is_whole", defArgs s_is_whole, defBody s_is_whole, defScope s_is_whole, [], []⟩
def d_is_seal : He.DefD := ⟨("is_seal", none), "is_seal", "is_seal", defArgs s_is_seal, defBody s_is_seal, defScope s_is_seal, [], []⟩
def d_signs_of : He.DefD := ⟨("signs_of", none), "signs_of", "signs_of", defArgs s_signs_of, defBody s_signs_of, defScope s_signs_of, [], []⟩
def d_l_alike : He.DefD := ⟨("_law_alike", none), "_law_alike", "_law_alike", defArgs s_l_alike, defBody s_l_alike, defScope s_l_alike, [], []⟩
def d_l_back : He.DefD := ⟨("_law_back", none), "_law_back", "_law_back", defArgs s_l_back, defBody s_l_back, defScope s_l_back, [], []⟩
def d_law : He.DefD := ⟨("law", none), "law", "law", defArgs s_law, defBody s_law, defScope s_law, [], []⟩
def fn : List He.DefD := ([d_l_bag, d_l_take, d_l_signs, d_l_sum, d_l_made, d_l_number, d_is_whole, d_is_seal, d_signs_of, d_l_alike, d_l_back, d_law] : List He.DefD)
def fa : List He.Fa := ([.glo "_law_bag", .glo "_law_take", .glo "_law_signs", .glo "_law_sum", .glo "_law_made", .glo "_law_number", .glo "is_whole", .glo "is_seal", .glo "signs_of", .glo "_law_alike", .glo "_law_back", .glo "law", .int "MOST_PIECE" 16, .int "BASE" 1001, .free "abs", .free "len", .free "range", .free "int", .free "isinstance", .free "bool", .free "repr"] : List He.Fa)
def names : List Str := (["is_whole", "is_seal", "signs_of", "_law_bag", "_law_take", "_law_alike", "_law_copy", "_law_sum", "_law_back", "_law_signs", "_law_made", "_law_number", "StoreError", "Wrong", "BASE", "MOST_PIECE"] : List Str)
abbrev R : PySem.W.OpenRow := PySem.W.OpenLaw.row PySem.Challenge.rw_restorechain_k15_signs_read_back
abbrev hk : PySem.W.Hook := He.hookD 5 fa fn
def ob (s : PySem.W.SharedT) : He.AlD := He.obsDG 5 fa fn (HandSHeadRun.getT s)
theorem ob_eq (s : PySem.W.SharedT) : ob s = hk.obs s.abs := He.obsDG_eq (HandSHeadRun.getT_eq s)
theorem run (w : World) : HandSHeadRun.RunEq R (PySem.W.view R.prog [20]) hk ob 4000 names w := by
  intro os
  kernel_rfl
theorem txt {K : PySem.W.Frag} {h : Heap} {mg : Str → Option Value} (X : K.In h) (G : h.Ns mainGlobals mg) (c : He.SaysD fa fn K) : Txt K mg where
  F_l_bag := fd_of (c.def_ 0 (d := d_l_bag) rfl)
  g_l_bag := He.glo_ok X G (c.fact 0 (f := .glo "_law_bag") rfl)
  F_l_take := fd_of (c.def_ 1 (d := d_l_take) rfl)
  g_l_take := He.glo_ok X G (c.fact 1 (f := .glo "_law_take") rfl)
  F_l_signs := fd_of (c.def_ 2 (d := d_l_signs) rfl)
  g_l_signs := He.glo_ok X G (c.fact 2 (f := .glo "_law_signs") rfl)
  F_l_sum := fd_of (c.def_ 3 (d := d_l_sum) rfl)
  g_l_sum := He.glo_ok X G (c.fact 3 (f := .glo "_law_sum") rfl)
  F_l_made := fd_of (c.def_ 4 (d := d_l_made) rfl)
  g_l_made := He.glo_ok X G (c.fact 4 (f := .glo "_law_made") rfl)
  F_l_number := fd_of (c.def_ 5 (d := d_l_number) rfl)
  g_l_number := He.glo_ok X G (c.fact 5 (f := .glo "_law_number") rfl)
  F_is_whole := fd_of (c.def_ 6 (d := d_is_whole) rfl)
  g_is_whole := He.glo_ok X G (c.fact 6 (f := .glo "is_whole") rfl)
  F_is_seal := fd_of (c.def_ 7 (d := d_is_seal) rfl)
  g_is_seal := He.glo_ok X G (c.fact 7 (f := .glo "is_seal") rfl)
  F_signs_of := fd_of (c.def_ 8 (d := d_signs_of) rfl)
  g_signs_of := He.glo_ok X G (c.fact 8 (f := .glo "signs_of") rfl)
  F_l_alike := fd_of (c.def_ 9 (d := d_l_alike) rfl)
  g_l_alike := He.glo_ok X G (c.fact 9 (f := .glo "_law_alike") rfl)
  F_l_back := fd_of (c.def_ 10 (d := d_l_back) rfl)
  g_l_back := He.glo_ok X G (c.fact 10 (f := .glo "_law_back") rfl)
  F_law := fd_of (c.def_ 11 (d := d_law) rfl)
  g_law := He.glo_ok X G (c.fact 11 (f := .glo "law") rfl)
  c_MOST_PIECE := He.int_ok X G (c.fact 12 (f := .int "MOST_PIECE" 16) rfl)
  c_BASE := He.int_ok X G (c.fact 13 (f := .int "BASE" 1001) rfl)
  b_abs := He.free_ok X G (c.fact 14 (f := .free "abs") rfl)
  b_len := He.free_ok X G (c.fact 15 (f := .free "len") rfl)
  b_range := He.free_ok X G (c.fact 16 (f := .free "range") rfl)
  b_int := He.free_ok X G (c.fact 17 (f := .free "int") rfl)
  b_isinstance := He.free_ok X G (c.fact 18 (f := .free "isinstance") rfl)
  b_bool := He.free_ok X G (c.fact 19 (f := .free "bool") rfl)
  b_repr := He.free_ok X G (c.fact 20 (f := .free "repr") rfl)
end RC
open PySem PySem.W PySem.Calls PyProof.Rows
set_option maxRecDepth 100000 in
set_option maxHeartbeats 0 in
theorem PySem.Challenge.cw_restorechain_k15_signs_read_back_holds : PySem.Challenge.rw_restorechain_k15_signs_read_back.Holds := by
  w_on; o_law
  refine HandSHeadRun.head_any (r := OpenLaw.row PySem.Challenge.rw_restorechain_k15_signs_read_back) (q := view (OpenLaw.row PySem.Challenge.rw_restorechain_k15_signs_read_back).prog [20]) (H := RC.hk) (ob := RC.ob) (M := 4000) (loose := RC.names)
    (d := HandSHeadRun.topDef (OpenLaw.row PySem.Challenge.rw_restorechain_k15_signs_read_back).prog 20) (kwd := []) RC.ob_eq (by kernel_rfl) (fun s => by kernel_rfl) RC.run
    (by kernel_rfl) (by kernel_rfl) (by kernel_rfl) (by rfl) (by first | assumption | decide +kernel) (by decide +kernel) ⟨rfl, rfl, rfl, rfl, rfl, by decide +kernel⟩ ?hw ?hc
  case hw => w_witness2
  case hc =>
    refine RC.walk_G (l := PySem.Challenge.rw_restorechain_k15_signs_read_back) (n := 63) (k := 4) (x := "_law_script") (CX := fun _ => L2.CX0) rfl (by decide) (by kernel_rfl) ⟨rfl, by decide, by decide⟩ ?F (fun _ _ _ _ _ z => z)
    intro w mg fa h Y G hmg0
    obtain ⟨K, KX, c⟩ := Y
    have hmg : mg ("law" : PySem.Str) = some (.ref fa) := by
      have e : (HandSHeadRun.topDef (OpenLaw.row PySem.Challenge.rw_restorechain_k15_signs_read_back).prog 20).name = ("law" : PySem.Str) := by kernel_rfl
      rw [← e]
      exact hmg0
    have T := RC.txt KX G c
    have e := hmg.symm.trans T.g_law
    cases e
    exact ⟨K, _, RC.sp_law K, KX, fun s v => L2.FunD.bindsA (ps := ["_law_script"]) T.F_law (fun _ _ _ _ _ _ us hl => match us, hl with | [_], _ => rfl) s [v] rfl,
      RC.law_start K, fun base _ _ nd => RC.ok_law T nd⟩
