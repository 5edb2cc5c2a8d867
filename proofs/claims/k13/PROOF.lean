import PyProof.Rows.All
import Wide.All
import OpenK.AllK
import Wide.FinOn
import KE.KStateDown
import HandS.ForMost
import HandS.More
import HandS.Walk
import HandS.Wide
import HandS.IsInst
import HandS.RaiseMore
import HandS.Style
import HandS.Deep
import HandS.MakeKwOnly
import HandS.WordsExc
import HandS.Defaults
import HandS.Head0
import HandS.Head1
import HandS.Head2
import HandS.HeadEnd
import HandS.HeadHook1
import HandS.HeadHook2
import PySem.Challenge.RW_restorechain_k13_whole_tails_and_heads
set_option Elab.async false
set_option linter.all false
set_option maxRecDepth 100000
set_option maxHeartbeats 4000000
namespace RC
open PySem PySem.Spec PyProof.Rows L2
/-! ### resources -/
abbrev Cell := Addr × HO
def Ext (F F' : Hp) : Prop := ∀ a o, F a = some o → F' a = some o
theorem Ext.refl (F : Hp) : Ext F F := fun _ _ h => h
theorem Ext.trans {F G H : Hp} (a : Ext F G) (b : Ext G H) : Ext F H := fun x o h => b x o (a x o h)
theorem Ext.new {H : Hp} {p : Addr} {o : HO} (h : H p = none) : Ext H (upd H p o) := fun a u e => by
  rw [upd_ne (ne_of_none e h)]
  exact e
theorem Ext.rd {H H' : Hp} {a : Addr} {u : HO} (e : Ext H H') (h : Rd H a u) : Rd H' a u := by
  rcases h with h | ⟨o, h⟩
  · exact Or.inl (e a _ h)
  · exact Or.inr ⟨o, e a _ h⟩
theorem Ext.sqL {K : PySem.W.Frag} {H H' : Hp} {a : Addr} {xs : List V} (e : Ext H H') (h : SqL K H a xs) : SqL K H' a xs := by
  rcases h with h | h
  · exact Or.inl (e.rd h)
  · exact Or.inr h
theorem Ext.sqT {K : PySem.W.Frag} {H H' : Hp} {a : Addr} {xs : List V} (e : Ext H H') (h : SqT K H a xs) : SqT K H' a xs := by
  rcases h with h | h
  · exact Or.inl (e.rd h)
  · exact Or.inr h
mutual
theorem Dp_ext {K : PySem.W.Frag} {H H' : Hp} (e : Ext H H') : ∀ {v : V} {d : PyData}, Dp K H v d → Dp K H' v d
  | _, _, .non => .non
  | _, _, .bl b => .bl b
  | _, _, .int i => .int i
  | _, _, .str x => .str x
  | _, _, .lst h ds => .lst (e.sqL h) (DpAll_ext e ds)
  | _, _, .tup h ds => .tup (e.sqT h) (DpAll_ext e ds)
theorem DpAll_ext {K : PySem.W.Frag} {H H' : Hp} (e : Ext H H') : ∀ {vs : List V} {ds : List PyData}, DpAll K H vs ds → DpAll K H' vs ds
  | _, _, .nil => .nil
  | _, _, .cons h r => .cons (Dp_ext e h) (DpAll_ext e r)
end
structure Res where
  on : Hp → List Cell → Prop
  mono : ∀ F F' l, Ext F F' → on F l → on F' l
/-- the object o stands at p, owned -/
def pt (p : Addr) (o : HO) : Res := ⟨fun _ l => l = [(p, o)], fun _ _ _ _ h => h⟩
/-- the object o stands at p for ever -/
def fz (p : Addr) (o : HO) : Res := ⟨fun F l => l = [] ∧ F p = some o, fun _ _ _ e h => ⟨h.1, e _ _ h.2⟩⟩
/-- v is the data d for ever -/
def dt (K : PySem.W.Frag) (v : V) (d : PyData) : Res := ⟨fun F l => l = [] ∧ Dp K F v d, fun _ _ _ e h => ⟨h.1, Dp_ext e h.2⟩⟩
def sp2 (R S : Res) : Res := ⟨fun F l => ∃ l1 l2, l = l1 ++ l2 ∧ R.on F l1 ∧ S.on F l2, fun _ _ _ e ⟨l1, l2, h, a, b⟩ => ⟨l1, l2, h, R.mono _ _ _ e a, S.mono _ _ _ e b⟩⟩
def exi {α : Type} (R : α → Res) : Res := ⟨fun F l => ∃ x, (R x).on F l, fun _ _ _ e ⟨x, h⟩ => ⟨x, (R x).mono _ _ _ e h⟩⟩
def prp (φ : Prop) (R : Res) : Res := ⟨fun F l => φ ∧ R.on F l, fun _ _ _ e h => ⟨h.1, R.mono _ _ _ e h.2⟩⟩
def Sat (F : Hp) : List Res → List Cell → Prop
  | [], l => l = []
  | R :: Rs, l => ∃ l1 l2, l = l1 ++ l2 ∧ R.on F l1 ∧ Sat F Rs l2
theorem Sat.mono {F F' : Hp} (e : Ext F F') : ∀ {Rs : List Res} {l : List Cell}, Sat F Rs l → Sat F' Rs l
  | [], _, h => h
  | R :: _, _, ⟨l1, l2, h, a, b⟩ => ⟨l1, l2, h, R.mono _ _ _ e a, Sat.mono e b⟩
theorem Sat.perm {F : Hp} {Rs Rs' : List Res} (p : Rs.Perm Rs') : ∀ {l : List Cell}, Sat F Rs l → ∃ l', l.Perm l' ∧ Sat F Rs' l' := by
  induction p with
  | nil => exact fun h => ⟨_, .refl _, h⟩
  | cons R _ ih =>
    rintro l ⟨l1, l2, rfl, a, b⟩
    obtain ⟨l3, q, c⟩ := ih b
    exact ⟨l1 ++ l3, .append_left _ q, l1, l3, rfl, a, c⟩
  | swap R S Rs =>
    rintro l ⟨l1, l2, rfl, a, l3, l4, rfl, b, c⟩
    refine ⟨l3 ++ (l1 ++ l4), ?_, l3, l1 ++ l4, rfl, b, l1, l4, rfl, a, c⟩
    rw [← List.append_assoc, ← List.append_assoc]
    exact List.Perm.append_right _ List.perm_append_comm
  | trans _ _ ih1 ih2 =>
    intro l h
    obtain ⟨l1, p1, h1⟩ := ih1 h
    obtain ⟨l2, p2, h2⟩ := ih2 h1
    exact ⟨l2, p1.trans p2, h2⟩
structure MemC (F : Hp) (L : List Cell) (H : Hp) : Prop where
  ex : Ext F H
  own : ∀ c ∈ L, H c.1 = some c.2 ∧ F c.1 = none
  nd : (L.map (·.1)).Nodup
theorem MemC.perm {F : Hp} {L L' : List Cell} {H : Hp} (h : MemC F L H) (p : L.Perm L') : MemC F L' H :=
  ⟨h.ex, fun c hc => h.own c (p.mem_iff.mpr hc), (p.map _).nodup_iff.mp h.nd⟩
/-- THE STATE: the resources hold, apart from one another -/
def M (Rs : List Res) (H : Hp) : Prop := ∃ F L, Sat F Rs L ∧ MemC F L H
section
variable {Rs Rs' : List Res} {R S : Res} {H : Hp} {p : Addr} {o o' : HO}
theorem M.perm (h : M Rs H) (q : Rs.Perm Rs') : M Rs' H := by
  obtain ⟨F, L, a, b⟩ := h
  obtain ⟨L', q', a'⟩ := a.perm q
  exact ⟨F, L', a', b.perm q'⟩
theorem M.nil : M [] H := ⟨fun _ => none, [], rfl, ⟨(fun _ _ h => nomatch h), (fun _ h => nomatch h), List.nodup_nil⟩⟩
theorem M.tl (h : M (R :: Rs) H) : M Rs H := by
  obtain ⟨F, L, ⟨l1, l2, rfl, a, b⟩, m⟩ := h
  refine ⟨F, l2, b, m.ex, fun c hc => m.own c (List.mem_append_right _ hc), ?_⟩
  have := m.nd
  rw [List.map_append] at this
  exact (List.nodup_append.mp this).2.1
theorem perm_at : ∀ {Rs : List Res} (i : Nat) {R : Res}, Rs[i]? = some R → Rs.Perm (R :: Rs.eraseIdx i)
  | [], i, R, h => by simp at h
  | S :: Rs, 0, R, h => by
    have e : S = R := Option.some.inj h
    subst e
    exact .refl _
  | S :: Rs, i + 1, R, h => by
    have ih := perm_at (Rs := Rs) i (R := R) (by simpa using h)
    exact (List.Perm.cons S ih).trans (List.Perm.swap R S _)
/-- the i-th resource comes first -/
theorem M.at (h : M Rs H) (i : Nat) (e : Rs[i]? = some R) : M (R :: Rs.eraseIdx i) H := h.perm (perm_at i e)
theorem M.hd (h : M (pt p o :: Rs) H) : H p = some o := by
  obtain ⟨F, L, ⟨l1, l2, rfl, rfl, b⟩, m⟩ := h
  exact (m.own (p, o) (by simp)).1
theorem M.hdF (h : M (fz p o :: Rs) H) : H p = some o := by
  obtain ⟨F, L, ⟨l1, l2, rfl, ⟨_, e⟩, b⟩, m⟩ := h
  exact m.ex _ _ e
theorem M.hdD {K : PySem.W.Frag} {v : V} {d : PyData} (h : M (dt K v d :: Rs) H) : Dp K H v d := by
  obtain ⟨F, L, ⟨l1, l2, rfl, ⟨_, e⟩, b⟩, m⟩ := h
  exact Dp_ext m.ex e
theorem M.got (h : M Rs H) (i : Nat) (e : Rs[i]? = some (pt p o)) : H p = some o := (h.at i e).hd
theorem M.gotF (h : M Rs H) (i : Nat) (e : Rs[i]? = some (fz p o)) : H p = some o := (h.at i e).hdF
theorem M.gotD {K : PySem.W.Frag} {v : V} {d : PyData} (h : M Rs H) (i : Nat) (e : Rs[i]? = some (dt K v d)) : Dp K H v d := (h.at i e).hdD
/-- a new object -/
theorem M.new (h : M Rs H) (hp : H p = none) : M (pt p o :: Rs) (upd H p o) := by
  obtain ⟨F, L, a, m⟩ := h
  have fp : F p = none := by
    cases q : F p with
    | none => rfl
    | some u => rw [m.ex _ _ q] at hp; cases hp
  refine ⟨F, (p, o) :: L, ⟨[(p, o)], L, rfl, rfl, a⟩, ⟨m.ex.trans (Ext.new hp), fun c hc => ?_, ?_⟩⟩
  · rcases List.mem_cons.mp hc with rfl | hc
    · exact ⟨upd_same, fp⟩
    · have q := m.own c hc
      refine ⟨?_, q.2⟩
      rw [upd_ne (ne_of_none q.1 hp)]
      exact q.1
  · rw [List.map_cons, List.nodup_cons]
    refine ⟨fun hm => ?_, m.nd⟩
    obtain ⟨c, hc, e⟩ := List.mem_map.mp hm
    have q := (m.own c hc).1
    rw [e, hp] at q
    cases q
/-- an owned object is changed -/
theorem M.put (h : M (pt p o :: Rs) H) : M (pt p o' :: Rs) (upd H p o') := by
  obtain ⟨F, L, ⟨l1, l2, rfl, rfl, b⟩, m⟩ := h
  have fp : F p = none := (m.own (p, o) (by simp)).2
  have nd := m.nd
  rw [List.map_append] at nd
  have nd2 : ((p :: l2.map (·.1)) : List Addr).Nodup := nd
  have np := (List.nodup_cons.mp nd2).1
  refine ⟨F, (p, o') :: l2, ⟨[(p, o')], l2, rfl, rfl, b⟩, ⟨fun a u e => ?_, fun c hc => ?_, nd2⟩⟩
  · have : a ≠ p := fun z => by rw [z, fp] at e; cases e
    rw [upd_ne this]
    exact m.ex _ _ e
  · rcases List.mem_cons.mp hc with rfl | hc
    · exact ⟨upd_same, fp⟩
    · have q := m.own c (List.mem_append_right _ hc)
      refine ⟨?_, q.2⟩
      have : c.1 ≠ p := fun z => np (List.mem_map.mpr ⟨c, hc, z⟩)
      rw [upd_ne this]
      exact q.1
/-- an owned object stays as it is from now on -/
theorem M.fix (h : M (pt p o :: Rs) H) : M (fz p o :: Rs) H := by
  obtain ⟨F, L, ⟨l1, l2, rfl, rfl, b⟩, m⟩ := h
  have hp := m.own (p, o) (by simp)
  have nd := m.nd
  rw [List.map_append] at nd
  have nd2 : ((p :: l2.map (·.1)) : List Addr).Nodup := nd
  have np := (List.nodup_cons.mp nd2).1
  have ex : Ext F (upd F p o) := Ext.new hp.2
  refine ⟨upd F p o, l2, ⟨[], l2, rfl, ⟨rfl, upd_same⟩, b.mono ex⟩, ⟨fun a u e => ?_, fun c hc => ?_, (List.nodup_cons.mp nd2).2⟩⟩
  · by_cases z : a = p
    · subst z
      rw [upd_same] at e
      cases e
      exact hp.1
    · rw [upd_ne z] at e
      exact m.ex _ _ e
  · have q := m.own c (List.mem_append_right _ hc)
    refine ⟨q.1, ?_⟩
    have : c.1 ≠ p := fun z => np (List.mem_map.mpr ⟨c, hc, z⟩)
    rw [upd_ne this]
    exact q.2
theorem M.dupF (h : M (fz p o :: Rs) H) : M (fz p o :: fz p o :: Rs) H := by
  obtain ⟨F, L, ⟨l1, l2, rfl, ⟨rfl, e⟩, b⟩, m⟩ := h
  exact ⟨F, l2, ⟨[], l2, rfl, ⟨rfl, e⟩, [], l2, rfl, ⟨rfl, e⟩, b⟩, m⟩
theorem M.dupD {K : PySem.W.Frag} {v : V} {d : PyData} (h : M (dt K v d :: Rs) H) : M (dt K v d :: dt K v d :: Rs) H := by
  obtain ⟨F, L, ⟨l1, l2, rfl, ⟨rfl, e⟩, b⟩, m⟩ := h
  exact ⟨F, l2, ⟨[], l2, rfl, ⟨rfl, e⟩, [], l2, rfl, ⟨rfl, e⟩, b⟩, m⟩
theorem M.sp (h : M (sp2 R S :: Rs) H) : M (R :: S :: Rs) H := by
  obtain ⟨F, L, ⟨l1, l2, rfl, ⟨l3, l4, rfl, a, b⟩, c⟩, m⟩ := h
  exact ⟨F, _, ⟨l3, l4 ++ l2, by rw [List.append_assoc], a, l4, l2, rfl, b, c⟩, m⟩
theorem M.sp' (h : M (R :: S :: Rs) H) : M (sp2 R S :: Rs) H := by
  obtain ⟨F, L, ⟨l1, l2, rfl, a, l3, l4, rfl, b, c⟩, m⟩ := h
  exact ⟨F, _, ⟨l1 ++ l3, l4, by rw [List.append_assoc], ⟨l1, l3, rfl, a, b⟩, c⟩, m⟩
theorem M.ex {α : Type} {T : α → Res} (h : M (exi T :: Rs) H) : ∃ x, M (T x :: Rs) H := by
  obtain ⟨F, L, ⟨l1, l2, rfl, ⟨x, a⟩, c⟩, m⟩ := h
  exact ⟨x, F, _, ⟨l1, l2, rfl, a, c⟩, m⟩
theorem M.ex' {α : Type} {T : α → Res} (x : α) (h : M (T x :: Rs) H) : M (exi T :: Rs) H := by
  obtain ⟨F, L, ⟨l1, l2, rfl, a, c⟩, m⟩ := h
  exact ⟨F, _, ⟨l1, l2, rfl, ⟨x, a⟩, c⟩, m⟩
theorem M.pr {φ : Prop} (h : M (prp φ R :: Rs) H) : φ ∧ M (R :: Rs) H := by
  obtain ⟨F, L, ⟨l1, l2, rfl, ⟨x, a⟩, c⟩, m⟩ := h
  exact ⟨x, F, _, ⟨l1, l2, rfl, a, c⟩, m⟩
theorem M.pr' {φ : Prop} (x : φ) (h : M (R :: Rs) H) : M (prp φ R :: Rs) H := by
  obtain ⟨F, L, ⟨l1, l2, rfl, a, c⟩, m⟩ := h
  exact ⟨F, _, ⟨l1, l2, rfl, ⟨x, a⟩, c⟩, m⟩
/-- the i-th, owned, is changed; the places stay -/
theorem perm_set : ∀ {Rs : List Res} (i : Nat) {R S : Res}, Rs[i]? = some R → (S :: Rs.eraseIdx i).Perm (Rs.set i S)
  | [], i, R, S, h => by simp at h
  | T :: Rs, 0, R, S, h => .refl _
  | T :: Rs, i + 1, R, S, h => by
    have ih := perm_set (Rs := Rs) i (R := R) (S := S) (by simpa using h)
    exact (List.Perm.swap T S _).trans (List.Perm.cons T ih)
theorem M.putAt (h : M Rs H) (i : Nat) (e : Rs[i]? = some (pt p o)) : M (Rs.set i (pt p o')) (upd H p o') := ((h.at i e).put (o' := o')).perm (perm_set i e)
theorem M.fixAt (h : M Rs H) (i : Nat) (e : Rs[i]? = some (pt p o)) : M (Rs.set i (fz p o)) H := (h.at i e).fix.perm (perm_set i e)
theorem M.setAt (h : M Rs H) (i : Nat) (e : Rs[i]? = some R) (k : M (R :: Rs.eraseIdx i) H → M (S :: Rs.eraseIdx i) H) : M (Rs.set i S) H := (k (h.at i e)).perm (perm_set i e)
end
end RC

namespace RC
open PySem PySem.Spec PyProof.Rows L2
/-! ### a def's promise: the names may be bound in any order; g: it wants to know that nothing is being shown (repr) around it -/
structure FnX (g : Bool) (P : Program) (w : World) (K : PySem.W.Frag) (mg : Str → Option Value) (base : Heap) (CX : CXT) (k : Nat) (f : Addr) (fd : FuncData) (ps : List Str) (sp : Sp) : Prop where
  lenG : ∀ vs H Q E, sp vs H Q E → vs.length = ps.length
  runG : ∀ (B : Around) (out : List Env) (t : Shared) (H : Hp) (args : Args) (bs : List (Str × Value)) (us : List Value) (vs : List V) (Q : VK) (E : XK), (g = true → B.guards = some []) → Room k B → Env0 P w K mg base B out t H →
    BindsTo t fd args bs → bs.Perm (ps.zip us) → Vals vs us → sp vs H Q E → codeAny (model P w) B (.call (.ref f) args) (CR CX out P w H t Q E) t
theorem zip_names {α β : Type} : ∀ (as : List α) (bs : List β), (as.zip bs).map (·.1) = as.take bs.length
  | [], _ => by simp
  | _ :: _, [] => rfl
  | a :: as, b :: bs => by
    show a :: (as.zip bs).map (·.1) = a :: as.take bs.length
    rw [zip_names as bs]
theorem bindL_perm {kd : Str → Option NameKind} {l l' : List (Str × Value)} (p : l.Perm l') : (l.map (·.1)).Nodup → ∀ m, bindL kd l m = bindL kd l' m := by
  induction p with
  | nil => exact fun _ _ => rfl
  | cons x _ ih =>
    intro nd m
    obtain ⟨n, v⟩ := x
    have nd2 := (List.nodup_cons.mp nd).2
    unfold bindL
    split <;> exact ih nd2 _
  | swap x y l =>
    intro nd m
    obtain ⟨n, v⟩ := x
    obtain ⟨n', v'⟩ := y
    have ne : n' ≠ n := fun e => (List.nodup_cons.mp nd).1 (by rw [e]; exact List.mem_cons_self)
    show bindL kd ((n', v') :: (n, v) :: l) m = bindL kd ((n, v) :: (n', v') :: l) m
    unfold bindL
    unfold bindL
    by_cases h1 : kd n' = some .local <;> by_cases h2 : kd n = some .local <;> simp only [h1, h2, if_true, if_false]
    all_goals try rfl
    congr 1
    funext z
    by_cases e1 : z = n
    · subst e1
      simp [Ne.symm ne]
    · simp [e1]
  | trans p q ih1 ih2 =>
    intro nd m
    rw [ih1 nd m, ih2 ((p.map _).nodup_iff.mp nd) m]
theorem bindC_perm {kd : Str → Option NameKind} {l l' : List (Str × Value)} (p : l.Perm l') : (l.map (·.1)).Nodup → ∀ m, bindC kd l m = bindC kd l' m := by
  induction p with
  | nil => exact fun _ _ => rfl
  | cons x _ ih =>
    intro nd m
    obtain ⟨n, v⟩ := x
    have nd2 := (List.nodup_cons.mp nd).2
    unfold bindC
    split <;> exact ih nd2 _
  | swap x y l =>
    intro nd m
    obtain ⟨n, v⟩ := x
    obtain ⟨n', v'⟩ := y
    have ne : n' ≠ n := fun e => (List.nodup_cons.mp nd).1 (by rw [e]; exact List.mem_cons_self)
    show bindC kd ((n', v') :: (n, v) :: l) m = bindC kd ((n, v) :: (n', v') :: l) m
    unfold bindC
    unfold bindC
    by_cases h1 : kd n' = some .local <;> by_cases h2 : kd n = some .local <;> simp only [h1, h2, if_true, if_false]
    all_goals try rfl
    congr 1
    funext z
    by_cases e1 : z = n
    · subst e1
      simp [Ne.symm ne]
    · simp [e1]
  | trans p q ih1 ih2 =>
    intro nd m
    rw [ih1 nd m, ih2 ((p.map _).nodup_iff.mp nd) m]
section
variable {g : Bool} {P : Program} {w : World} {K : PySem.W.Frag} {mg : Str → Option Value} {base : Heap} {CX : CXT} {k : Nat} {f : Addr} {fd : FuncData} {ps : List Str} {sp : Sp}
theorem FnX.ok (F : FnX false P w K mg base CX k f fd ps sp) : FnOk P w K mg base CX k f fd ps sp :=
  ⟨F.lenG, fun B out t H args us vs Q E hr e b r h => F.runG B out t H args _ us vs Q E (fun z => nomatch z) hr e b (.refl _) r h⟩
theorem FnX.up {g' : Bool} (F : FnX g P w K mg base CX k f fd ps sp) (h : g = true → g' = true) : FnX g' P w K mg base CX k f fd ps sp :=
  ⟨F.lenG, fun B out t H args bs us vs Q E gu hr e b p r hs => F.runG B out t H args bs us vs Q E (fun z => gu (h z)) hr e b p r hs⟩
theorem FnX.mono {j : Nat} (F : FnX g P w K mg base CX j f fd ps sp) (h : j ≤ k) : FnX g P w K mg base CX k f fd ps sp :=
  ⟨F.lenG, fun B out t H args bs us vs Q E gu hr e b p r hs => F.runG B out t H args bs us vs Q E gu (hr.mono h) e b p r hs⟩
theorem okX {x qual : Str} {params : Arguments} {body : List Stmt} {scope : Scope} {dvs : List V} {kws : List (Str × V)} {N : List Str} (D : FunD K x qual params body scope dvs kws f fd) (S : FnScope N ps scope)
    (hlen : ∀ vs H Q E, sp vs H Q E → vs.length = ps.length)
    (hbody : ∀ (cdv : Value) (B : Around) (out : List Env) (t : Shared) (H : Hp) (vs : List V) (Q : VK) (E : XK), (g = true → B.guards = some []) → Room k (B.deeper (envOfC qual scope t.heap.objs.size f cdv)) → sp vs H Q E →
      ∃ tr, PSs (cxOf CX P w K mg base N qual scope f cdv B out t H E) body tr ∧ tr { nx := fun _ H' => Q .non H', rt := Q } (start N vs) H) :
    FnX g P w K mg base CX (k + 1) f fd ps sp := by
  obtain ⟨⟨oc, od, dV, kV, doc, pm, an, cdv, ct, osl, rfl, lk, hcd, _, _⟩, _⟩ := D
  constructor
  · exact hlen
  intro B out t H args bs us vs Q E hg hr env hb hperm rel hsp
  have hin : K.In t.heap := env.mod.kin.keeps fun b o q => (env.bs b o q).1
  have hno : t.heap.NoLimit := env.mod.nolimit.keeps fun b o q => (env.bs b o q).1
  have hll := hlen _ _ _ _ hsp
  have nd : (bs.map (·.1)).Nodup := by
    refine (hperm.map _).nodup_iff.mpr ?_
    rw [zip_names, List.take_of_length_le (by rw [← rel.length, hll]; exact Nat.le_refl _), ← S.pre]
    exact S.nd.sublist (List.take_sublist _ _)
  have hk : ∀ y ∈ bs, scope.names.lookup y.1 = some .local ∨
      (scope.names.lookup y.1 = some .cell ∧ ((cellsFrom (t.heap.objs.size + 1) scope.names []).lookup y.1).isSome = true) := by
    rintro ⟨n, v⟩ hy
    cases S.par n (List.of_mem_zip (hperm.mem_iff.mp hy)).1 with
    | inl q => exact .inl q
    | inr q => exact .inr ⟨q, PySem.W.cellsFrom_some _ _ _ (.inl q)⟩
  refine codeAny_call_function hr.depth (hin _ _ lk) rfl S.co S.gen rfl
    (PySem.W.codeRec_of hin hcd) (hb _ _ _ _ ?_)
  refine wpAny_newFunctionEnv_cells S.kind hk fun ev hev t1 ic => ?_
  subst hev
  rw [bindL_perm hperm nd, bindC_perm hperm nd] at ic
  refine ⟨hno.keeps ic.toInCall.keep, codeAny_func ?_⟩
  obtain ⟨tr, htr, hq⟩ := hbody cdv B out t H vs Q E hg (hr.deeper _) hsp
  have J : Inv (cxOf CX P w K mg base N qual scope f cdv B out t H E) [] (start N vs) H t1 :=
    inv_start S hr.hd env hll rel ic
  refine wpAny_mono (htr.run [] t1 (start N vs) H _ J hq) (fun fl t2 z => ?_) fun _ _ z => z
  cases fl with
  | next =>
    obtain ⟨s2, H2, J2, q2⟩ := z
    exact ⟨V.non, H2, J2.os, J2.bare, J2.base, J2.hok, rfl, q2⟩
  | ret u =>
    obtain ⟨v2, s2, H2, J2, r2, q2⟩ := z
    exact ⟨v2, H2, J2.os, J2.bare, J2.base, J2.hok, r2, q2⟩
  | brk =>
    obtain ⟨_, _, _, q2⟩ := z
    cases q2
  | cont =>
    obtain ⟨_, _, _, q2⟩ := z
    cases q2
end
section
variable {X : Cx} {g : Bool} {CX : CXT} {k n : Nat} {f : Addr} {fd : FuncData} {ps ps' ks : List Str} {sp : Sp} {ds : List Value} {dvs : List V} {E : XK}
theorem runX_fn {pins : List (Addr × Obj)} {σ : L2.St} {H : Hp} {s : Shared} {Q : VK} {us : List Value} {vs : List V} (F : FnX g X.prog X.w X.K X.mg X.base CX k f fd ps sp) (hg : g = true → X.A.guards = some []) (hr : Room k X.A)
    (hb : Binds X.K fd ps ds) (hd : Vals dvs ds) (hx : Passes CX X E) (I : Inv X pins σ H s) (r : Vals vs us) (h : sp (vs ++ dvs) H Q E) :
    wpAny (model X.prog X.w) X.A (call (.ref f) us) (EP X pins σ Q) X.xe s := by
  have rr : Vals (vs ++ dvs) (us ++ ds) := r.append hd
  have ll : (us ++ ds).length = ps.length := rr.length.symm.trans (F.lenG _ _ _ _ h)
  have go := F.runG X.A X.stack s H ⟨us, []⟩ _ (us ++ ds) (vs ++ dvs) Q E hg hr I.env0 (hb s us I.kIn ll) (.refl _) rr h
  refine wpAny_call (codeAny_mono go fun res s' hq => ?_)
  match res, hq with
  | .error e, hq => exact hx pins σ H s e s' I hq
  | .ok (.ret u), hq => exact I.after hq
  | .ok .next, hq => cases hq
  | .ok .brk, hq => cases hq
  | .ok .cont, hq => cases hq
theorem pe_callX {x : Str} {e : Expr} {es : List Expr} {t : TA} {p pos : Pos} (F : FnX g X.prog X.w X.K X.mg X.base CX k f fd ps sp) (hgu : g = true → X.A.guards = some []) (hr : Room k X.A) (hg : Gl X x) (hm : X.mg x = some (.ref f))
    (hk : PySem.W.keepIn X.K (.ref f) = true) (hb : Binds X.K fd ps ds) (hd : Vals dvs ds) (hx : Passes CX X E)
    (ha : PA X (e :: es) t) (hdb : (x == ("__debug__" : Str)) = false := by decide) (he : starEach (e :: es) X.env = (false, eval e X.env) :: starEach es X.env := by rfl)
    (hpl : (backTo pos (starEach es X.env)).any (·.1) = false := by rfl) : PE X (.Call (.Name x p) (e :: es) [] pos) (tCall sp dvs E t) := by
  constructor
  intro pins s σ H Q I h
  refine wpAny_Call_Name_kw (ld_glob I hg hm ?_ hdb)
  have body := thn (ha.run pos pins s σ H _ I h) (Q' := fun us s1 => X.K.In s1.heap ∧ wpAny (model X.prog X.w) X.A (call (.ref f) us) (EP X pins σ Q) X.xe s1)
    fun us s1 ⟨vs, H1, I1, r1, q1⟩ => ⟨I1.kIn, runX_fn F hgu hr hb hd hx I1 r1 q1⟩
  exact PySem.W.callWith_K (h₀ := X.base) I.ok.mod.kin hk body he hpl
/-- f(e, .., k = v, ..): bound as ps' says, turned by π to the parameters' order -/
theorem runX_kw {pins : List (Addr × Obj)} {σ : L2.St} {H : Hp} {s : Shared} {Q : VK} {us ws : List Value} {vs zs : List V} {gU : List Value → List Value → List Value} {gV : List V → List V → List V} (π : {α : Type} → List α → List α)
    (F : FnX g X.prog X.w X.K X.mg X.base CX k f fd ps sp) (hg : g = true → X.A.guards = some []) (hr : Room k X.A) (hb : KBn X.K fd ps' n ks gU gV) (hx : Passes CX X E)
    (h1 : ∀ vs us, Vals vs us → Vals (π vs) (π us)) (h2 : ∀ us : List Value, us.length = ps'.length → (ps'.zip us).Perm (ps.zip (π us)))
    (I : Inv X pins σ H s) (r : Vals vs us) (rz : Vals zs ws) (l1 : vs.length = n) (l2 : zs.length = ks.length) (l3 : (gV vs zs).length = ps'.length) (h : sp (π (gV vs zs)) H Q E) :
    wpAny (model X.prog X.w) X.A (call (.ref f) us (ks.zip ws)) (EP X pins σ Q) X.xe s := by
  have rr := hb.rel r rz
  have go := F.runG X.A X.stack s H ⟨us, ks.zip ws⟩ _ (π (gU us ws)) (π (gV vs zs)) Q E hg hr I.env0 (hb.to s us ws I.kIn (r.length.symm.trans l1) (rz.length.symm.trans l2)) (h2 _ (rr.length.symm.trans l3)) (h1 _ _ rr) h
  refine wpAny_call (codeAny_mono go fun res s' hq => ?_)
  match res, hq with
  | .error e, hq => exact hx pins σ H s e s' I hq
  | .ok (.ret u), hq => exact I.after hq
  | .ok .next, hq => cases hq
  | .ok .brk, hq => cases hq
  | .ok .cont, hq => cases hq
def tCallP (n m l : Nat) (π : {α : Type} → List α → List α) (sp : Sp) (gV : List V → List V → List V) (E : XK) (t tk : TA) : TE := fun σ H Q => t σ H fun vs H1 => tk σ H1 fun zs H2 => vs.length = n ∧ zs.length = m ∧ (gV vs zs).length = l ∧ sp (π (gV vs zs)) H2 Q E
theorem pe_callP {x : Str} {e : Expr} {es : List Expr} {kws : List Keyword} {t tk : TA} {p pos : Pos} {gU : List Value → List Value → List Value} {gV : List V → List V → List V} (π : {α : Type} → List α → List α)
    (F : FnX g X.prog X.w X.K X.mg X.base CX k f fd ps sp) (hgu : g = true → X.A.guards = some []) (hr : Room k X.A) (hg : Gl X x) (hm : X.mg x = some (.ref f))
    (hk : PySem.W.keepIn X.K (.ref f) = true) (hb : KBn X.K fd ps' n ks gU gV) (hx : Passes CX X E) (h1 : ∀ vs us, Vals vs us → Vals (π vs) (π us)) (h2 : ∀ us : List Value, us.length = ps'.length → (ps'.zip us).Perm (ps.zip (π us)))
    (ha : PA X (e :: es) t) (hkw : PK X kws tk) (hall : (backToKw pos (keywordEach kws X.env)).all (·.1.isSome) = true := by rfl) (hks : (backToKw pos (keywordEach kws X.env)).filterMap (·.1) = ks := by rfl)
    (hdb : (x == ("__debug__" : Str)) = false := by decide) (he : starEach (e :: es) X.env = (false, eval e X.env) :: starEach es X.env := by rfl)
    (hpl : ((backTo pos (starEach (e :: es) X.env)).any (·.1) || (backToKw pos (keywordEach kws X.env)).any (·.1.isNone)) = false := by rfl) :
    PE X (.Call (.Name x p) (e :: es) kws pos) (tCallP n ks.length ps'.length π sp gV E t tk) := by
  constructor
  intro pins s σ H Q I h
  refine wpAny_Call_Name_kw (ld_glob I hg hm ?_ hdb)
  refine PySem.W.callWith_KW (h₀ := X.base) I.ok.mod.kin hk hall
    (thn (ha.run pos pins s σ H _ I h) ?_) hpl he
  rintro us s1 ⟨vs, H1, I1, r1, q1⟩
  refine thn (hkw.run pos pins s1 σ H1 _ I1 q1) ?_
  rintro ws s2 ⟨zs, H2, I2, r2, l1, l2, l3, q2⟩
  refine ⟨I2.kIn, ?_⟩
  subst hks
  exact runX_kw π F hgu hr hb hx h1 h2 I2 r1 r2 l1 l2 l3 q2
end
/-- some places of a list -/
def pickL {α : Type} (is : List Nat) (l : List α) : List α := is.filterMap fun i => l[i]?
theorem pickL_vals {vs : List V} {us : List Value} (r : Vals vs us) : ∀ is : List Nat, Vals (pickL is vs) (pickL is us)
  | [] => .nil
  | i :: is => by
    unfold pickL
    cases e : vs[i]? with
    | none =>
      rw [List.filterMap_cons, List.filterMap_cons, e, r.none_of e]
      exact pickL_vals r is
    | some v =>
      obtain ⟨u, hu, ru⟩ := r.get e
      rw [List.filterMap_cons, List.filterMap_cons, e, hu]
      exact .cons ru (pickL_vals r is)
theorem permAt {α : Type} : ∀ {l : List α} (i : Nat) {x : α}, l[i]? = some x → l.Perm (x :: l.eraseIdx i)
  | [], i, x, h => by simp at h
  | y :: l, 0, x, h => by
    have e : y = x := Option.some.inj h
    subst e
    exact .refl _
  | y :: l, i + 1, x, h => (List.Perm.cons y (permAt (l := l) i (x := x) (by simpa using h))).trans (List.Perm.swap x y _)
/-! ### the law's end for such a def -/
theorem law_callG {P : Program} {w : World} {K : PySem.W.Frag} {mg mb : Str → Option Value} {CX : CXT} {k : Nat} {fa a : Addr} {fd : FuncData} {x : Str} {sp : Sp} {s1 : Shared} {vs : List Value} {ns : List Int}
    (KX : K.In s1.heap) (hns : s1.heap.Ns mainGlobals mg) (hb : s1.heap.Ns builtinsNs mb) (hbb : ∀ x : Str, x ≠ "__name__" → mb x = bootBuiltins x) (hlim : s1.heap.NoLimit) (hg : s1.gens = #[])
    (ha : s1.heap.get? a = some { cls := .type "list", data := .seq vs.toArray }) (hi : IntsAre vs ns) (hl : ns.length ≤ sizeLine) (hr : Room k callerA)
    (F : ∀ base : Heap, K.In base → base.Ns mainGlobals mg → FnX true P w K mg base CX k fa fd [x] sp)
    (hbind : ∀ (s : Shared) (u : Value), BindsTo s fd ⟨[u], []⟩ [(x, u)])
    (hsp : ∀ H : Hp, SqL K H a (ns.map V.int) → sp [.ref a] H (fun v _ => v = .bl true) fun _ _ _ => False)
    (hCX : ∀ H e s', CX [] H s1 (fun _ _ _ => False) e s' → False) :
    codeAny (model P w) callerA (.call (.ref fa) ⟨[.ref a], []⟩) (fun r s' => r = .ok (.ret (.bool true)) ∧ OldK s1.heap s'.heap ∧ s'.os = s1.os ∧ AllBare s'.gens) s1 := by
  have rv := vals_ints hi
  -- the abstract heap: the script alone, locked, unless it is one of the module's own objects
  obtain ⟨H, hS, hok, hA, hK, hO⟩ : ∃ H : Hp, SqL K H a (ns.map V.int) ∧ HOk P w H s1.heap ∧ (∀ b, H b ≠ none → b = a) ∧ (H a ≠ none → K.lookup a = none) ∧
      ∀ b u, H b = some u → ∃ o v, u = .frz o v := by
    cases hk : K.lookup a with
    | some o =>
      have e := KX a o hk
      rw [ha] at e
      cases e
      refine ⟨fun _ => none, .inr ⟨_, vs.toArray, _, hk, rfl, rfl, rfl, ?_, by simpa using rv⟩, ?_, ?_, ?_, ?_⟩
      · rw [List.size_toArray, hi.length]
        exact hl
      · intro b u z
        cases (show (none : Option HO) = some u from z)
      · intro b z
        exact absurd rfl z
      · intro z
        exact absurd rfl z
      · intro b u z
        cases (show (none : Option HO) = some u from z)
    | none =>
      have at1 : upd (fun _ => none) a (.frz { cls := .type "list", data := .seq vs.toArray } (.lst (ns.map V.int))) a = some (HO.frz { cls := .type "list", data := .seq vs.toArray } (.lst (ns.map V.int))) := upd_same
      have at2 : ∀ b u, upd (fun _ => none) a (.frz { cls := .type "list", data := .seq vs.toArray } (.lst (ns.map V.int))) b = some u → b = a ∧ u = HO.frz { cls := .type "list", data := .seq vs.toArray } (.lst (ns.map V.int)) := by
        intro b u z
        by_cases q : b = a
        · subst q
          rw [upd_same] at z
          exact ⟨rfl, (Option.some.inj z).symm⟩
        · rw [upd_ne q] at z
          cases z
      refine ⟨_, .inl (.inr ⟨_, at1⟩), ?_, ?_, fun _ => rfl, ?_⟩
      · intro b u z
        obtain ⟨rfl, rfl⟩ := at2 b u z
        refine ⟨ha, ?_, vs, _, rv, ha⟩
        rw [List.length_map]
        exact hl
      · intro b z
        cases q : upd (fun _ => none) a (.frz { cls := .type "list", data := .seq vs.toArray } (.lst (ns.map V.int))) b with
        | none => exact absurd q z
        | some u => exact (at2 b u q).1
      · intro b u z
        exact ⟨_, _, (at2 b u z).2⟩
  have off : ∀ {b : Addr} {o : Obj} {es : Array DictEntry} {ep : Nat}, s1.heap.get? b = some o → o.data = .dict es ep → H b = none := by
    intro b o es ep e d
    cases q : H b with
    | none => rfl
    | some u =>
      have z : b = a := hA b (by rw [q]; simp)
      subst z
      rw [ha] at e
      cases e
      cases (show Data.seq vs.toArray _ = Data.dict es ep from d)
  have nsH : ∀ {b : Addr} {m : Str → Option Value}, s1.heap.Ns b m → (hidT s1.heap H).Ns b m := by
    rintro b m ⟨o, es, ep, e, d, r⟩
    exact ⟨o, es, ep, hidT_get e (off e d), d, r⟩
  have hKb : K.In (hidT s1.heap H) := by
    intro b o e
    refine hidT_get (KX b o e) ?_
    cases q : H b with
    | none => rfl
    | some u =>
      have z : b = a := hA b (by rw [q]; simp)
      subst z
      rw [hK (by rw [q]; simp)] at e
      cases e
  have hM : Mod K mg (hidT s1.heap H) := by
    obtain ⟨mc, h1, h2⟩ := hlim
    exact ⟨hKb, nsH hns, ⟨mb, nsH hb, hbb⟩, ⟨mc, nsH h1, h2⟩⟩
  have e0 : Env0 P w K mg (hidT s1.heap H) callerA [] s1 H := by
    refine ⟨rfl, hM, fun b o e => of_hidT e, Nat.le_of_eq (hidT_size _ _), trivial, fun b hb => ?_, hok, .of_eq hg⟩
    cases (show b ∈ ([] : List Addr) from hb)
  have go := (F _ hKb (nsH hns)).runG callerA [] s1 H ⟨[.ref a], []⟩ _ [.ref a] [.ref a] _ _ (fun _ => rfl) hr e0 (hbind s1 (.ref a)) (.refl _) (.cons rfl .nil) (hsp H hS)
  refine codeAny_mono go fun res s' h => ?_
  match res, h with
  | .error e, h => exact (hCX H e s' h).elim
  | .ok .next, h => cases h
  | .ok .brk, h => cases h
  | .ok .cont, h => cases h
  | .ok (.ret u), h =>
    obtain ⟨v, H', os, bare, un, hok', r', q⟩ := h
    cases (show v = .bl true from q)
    cases (show u = Value.bool true from r')
    refine ⟨rfl, OldK.of_keep fun b o e => ?_, os, bare⟩
    cases q : H b with
    | none =>
      refine un.keep b o e q (fun z => ?_) (by simp)
      cases (show b ∈ ([] : List Addr) from z)
    | some u =>
      obtain ⟨ob, v2, rfl⟩ := hO b u q
      have z2 := un.frzs b ob _ q
      obtain ⟨e1, _⟩ := hok b _ q
      obtain ⟨e2, _⟩ := hok' b _ z2
      rw [e] at e1
      cases e1
      exact e2
theorem walk_G {l : PySem.W.OpenLaw} {n k : Nat} {q : Program} {loose : List Str} {XP : (Str → Option Value) → Heap → Prop} {YP : World → Heap → Prop} {d : DefRec} {CX : World → CXT} {x : Str}
    (hn : l.most = some n) (hn2 : n ≤ sizeLine) (hdf : d.params.defaults = []) (hr : Room k callerA)
    (F : ∀ (w : World) (mg : Str → Option Value) (fa : Addr) (h : Heap), YP w h → h.Ns mainGlobals mg → mg d.name = some (.ref fa) →
      ∃ (K : PySem.W.Frag) (fd : FuncData) (sp : Sp), K.In h ∧ (∀ (s : Shared) (u : Value), BindsTo s fd ⟨[u], []⟩ [(x, u)]) ∧
        (∀ (H : Hp) (a : Addr) (ns : List Int), ns.length ≤ n → SqL K H a (ns.map V.int) → sp [.ref a] H (fun v _ => v = .bl true) fun _ _ _ => False) ∧
        ∀ base : Heap, K.In base → base.Ns mainGlobals mg → FnX true l.prog w K mg base (CX w) k fa fd [x] sp)
    (hCX : ∀ (w : World) (H : Hp) (s : Shared) (e : Value) (s' : Shared), CX w [] H s (fun _ _ _ => False) e s' → False) :
    PySem.W.WalkO q loose XP YP l.row.toRowW d [] (fun f vs => PySem.call f vs) := by
  refine Att.attach_call hn hdf ?_
  intro w s0 s1 mg mb fa o pm cd doc a vs ns G Y ho hd hcd hmg hobj hints hlen hgen
  obtain ⟨K, fd, sp, KX, hb, hsp, hF⟩ := F w mg fa _ Y G.T.g hmg
  exact law_callG KX G.T.g G.T.b G.T.builtins G.T.nolimit hgen hobj hints
    (Nat.le_trans hlen hn2) hr hF hb (fun H hS => hsp H a ns hlen hS) (fun H e s' => hCX w H s1 e s')
end RC

namespace RC
open PySem PySem.Spec PyProof.Rows L2
/-! ### rules for any kinds of operands -/
section
variable {X : Cx}
/-- two lists, each of any standing -/
def rCatS (K : PySem.W.Frag) : R2 := fun x y H Q => ∃ l b xs zs, x = .ref l ∧ y = .ref b ∧ SqL K H l xs ∧ SqL K H b zs ∧ xs.length + zs.length ≤ sizeLine ∧ ∀ p, H p = none → Q (.ref p) (upd H p (.lst (xs ++ zs)))
theorem op_catS : OpR X (binaryOp .Add) (rCatS X.K) := by
  intro pins s σ H x y v u Q I rx ry h
  obtain ⟨l, b, xs, zs, rfl, rfl, hH, hB, hz, q⟩ := h
  cases rx
  cases ry
  obtain ⟨its, r, ⟨⟨cls, dd, data, sl⟩, n, ho, hc, _, hd⟩, _⟩ := I.list hH
  obtain ⟨its2, r2, ⟨⟨cls2, dd2, data2, sl2⟩, n2, ho2, hc2, _, hd2⟩, _⟩ := I.list hB
  simp only at hc hd hc2 hd2
  subst hc hd hc2 hd2
  have ea : its.toArray ++ its2.toArray = (its ++ its2).toArray := by simp
  have l1 := r.length
  have l2 := r2.length
  refine concat_meets ⟨_, ho, rfl⟩ ⟨_, ho2, rfl⟩ noFill_list_add seq_list_add PySem.F.slot_list_add PySem.F.entry_list_add (PySem.F.args_list_add_2 _ _) (list_addW l b its.toArray its2.toArray n n2 dd dd2 sl sl2 (by rw [List.size_toArray, List.size_toArray]; omega)) ⟨ho, ho2, ?_⟩
  rw [ea]
  exact ⟨.ref _, _, I.lnew (t' := s.toks) (r.append r2) (by rw [List.length_append]; omega), rfl, q _ I.fresh⟩
def uAdd (K : PySem.W.Frag) : R2 := fun x y H Q => rI0 (fun i j => .int (i + j)) x y H Q ∨ (∃ i j, x = .str i ∧ y = .str j ∧ i.length + j.length ≤ sizeLine ∧ Q (.str (i ++ j)) H) ∨ rCatS K x y H Q ∨ rCatT K x y H Q
theorem uo_add : OpR X (binaryOp .Add) (uAdd X.K) := op_add.or (op_add_str.or (op_catS.or op_catT))
def uSub : R2 := rI0 fun i j => .int (i - j)
theorem uo_sub : OpR X (binaryOp .Sub) uSub := op_sub
def uMul : R2 := fun x y H Q => rI CMul (fun i j => .int (i * j)) x y H Q ∨ rI CMulW (fun i j => .int (i * j)) x y H Q ∨ rRep x y H Q
theorem uo_mul : OpR X (binaryOp .Mult) uMul := op_mul.or (op_mulW.or op_rep)
def uMod : R2 := rI (fun _ j => 0 < j) fun i j => .int (i % j)
theorem uo_mod : OpR X (binaryOp .Mod) uMod := op_mod
def uDiv : R2 := rI CDivW fun i j => .int (i / j)
theorem uo_div : OpR X (binaryOp .FloorDiv) uDiv := op_fdivW
def uPow : R2 := rI CPow fun i j => .int (i ^ j.toNat)
theorem uo_pow : OpR X (binaryOp .Pow) uPow := op_pow
/-- op= -/
def iAdd : R2 := fun x y H Q => rI0 (fun i j => .int (i + j)) x y H Q ∨ rExt2 x y H Q
theorem io_add : OpR X (inplaceOp .Add) iAdd := iop_add.or iop_ext
def iSub : R2 := rI0 fun i j => .int (i - j)
theorem io_sub : OpR X (inplaceOp .Sub) iSub := iop_sub
def iMul : R2 := rI CMul fun i j => .int (i * j)
theorem io_mul : OpR X (inplaceOp .Mult) iMul := iop_mul
def iDiv : R2 := rI CDiv fun i j => .int (i / j)
theorem io_div : OpR X (inplaceOp .FloorDiv) iDiv := iop_fdiv
/-- == and != of scalars, of data -/
def uEq (K : PySem.W.Frag) : R2 := fun x y H Q => rEq x y H Q ∨ rEqD K x y H Q
theorem uo_eq (hu : X.A.units + 64 < cLine) : OpR X (compareOp .Eq) (uEq X.K) := op_eq.or (op_eqD hu)
def uNe (K : PySem.W.Frag) : R2 := fun x y H Q => rNe x y H Q ∨ rNeD K x y H Q
theorem uo_ne (hu : X.A.units + 64 < cLine) : OpR X (compareOp .NotEq) (uNe X.K) := op_ne.or (op_neD hu)
def uLt : R2 := rI0 fun i j => .bl (decide (i < j))
def uLe : R2 := rI0 fun i j => .bl (decide (i ≤ j))
def uGt : R2 := rI0 fun i j => .bl (decide (j < i))
def uGe : R2 := rI0 fun i j => .bl (decide (j ≤ i))
theorem uo_lt : OpR X (compareOp .Lt) uLt := op_lt
theorem uo_le : OpR X (compareOp .LtE) uLe := op_le
theorem uo_gt : OpR X (compareOp .Gt) uGt := op_gt
theorem uo_ge : OpR X (compareOp .GtE) uGe := op_ge
/-- o[i] by values, o[i] = v by values: lists, dicts -/
def gIx (K : PySem.W.Frag) : V → V → Hp → VK → Prop := fun o i H Q => (∃ (p : Addr) (xs : List V) (n : Int) (v : V), o = .ref p ∧ i = .int n ∧ SqL K H p xs ∧ 0 ≤ n ∧ xs[n.toNat]? = some v ∧ Q v H) ∨ ∃ p v, o = .ref p ∧ DGet H p i (some v) ∧ Q v H
theorem get_any (hu : X.A.units + 1 < cLine) : PGet X (gIx X.K) := by
  intro pins s σ H o i ov iv Q I r1 r2 h
  rcases h with ⟨p, xs, n, v, rfl, rfl, hs, h0, hx, q⟩ | ⟨p, v, rfl, hd, q⟩
  · cases (show ov = Value.ref p from r1)
    obtain ⟨tk, rfl⟩ := r2
    obtain ⟨its, rv, pl, hz⟩ := I.list hs
    obtain ⟨u, hu, ru⟩ := rv.get hx
    have hlt : n.toNat < xs.length := (List.getElem?_eq_some_iff.mp hx).1
    have hle : n < 2 ^ 63 := by
      have := line63
      omega
    exact wpAny_getItem_list pl.isList h0 hle (by simpa using hu) ⟨v, H, I, ru, q⟩
  · cases (show ov = Value.ref p from r1)
    exact d_getItem hu I hd r2 fun w' s' I' rw' => ⟨v, H, I', rw', q⟩
def uSet : V → V → V → Hp → (Hp → Prop) → Prop := fun o i v H Q => rSetL o i v H Q ∨ ∃ p H', o = .ref p ∧ DPut H p i v H' ∧ Q H'
theorem set_any (hu : X.A.units + 1 < cLine) : PSet X uSet := by
  intro pins s σ H o i v ov iv u Q I r1 r2 r3 h
  rcases h with h | ⟨p, H', rfl, hd, q⟩
  · exact set_list pins s σ H o i v ov iv u Q I r1 r2 r3 h
  · cases (show ov = Value.ref p from r1)
    exact d_setItem hu I hd r2 r3 fun s' I' => ⟨H', I', q⟩
theorem ip_of {op : Operator} {r : R2} (h : OpR X (inplaceOp op) r) : PIp X op r := fun pins s σ H x y v u Q I a b q => h pins s σ H x y v u Q I a b q
/-- repr of data -/
def rRepr (K : PySem.W.Frag) : List V → Hp → VK → Prop := fun xs H Q => ∃ v d, xs = [v] ∧ Dp K H v d ∧ d.showable = true ∧ d.canLay0 = true ∧ d.depth ≤ 60 ∧ d.shown.length ≤ sizeLine ∧ Q (.str d.shown) H
theorem cr_repr (hg : X.A.guards = some []) (hu : X.A.units + 64 < cLine) : CallR X (.builtin "repr") (rRepr X.K) := by
  intro pins s σ H xs us Q I r h
  obtain ⟨v, d, rfl, hd, hs, hc, hp, hz, q⟩ := h
  obtain ⟨u, rfl, ru⟩ := vals1 r
  obtain ⟨as, rd⟩ := Dp.reads I d v u hd ru
  cases hd with
  | non =>
    cases (show u = Value.none from ru)
    refine PySem.P.repr_of_none ⟨.str _, H, I.tok _, ⟨_, rfl⟩, ?_⟩
    simpa only [PyData.shown] using q
  | bl b =>
    cases (show u = Value.bool b from ru)
    refine PySem.P.repr_of_bool ⟨.str _, H, I.tok _, ⟨_, rfl⟩, ?_⟩
    simpa only [PyData.shown] using q
  | int i =>
    obtain ⟨t, rfl⟩ := ru
    refine PySem.P.repr_of_int (by simpa [PyData.showable] using hs) ⟨.str _, H, I.tok _, ⟨_, rfl⟩, ?_⟩
    simpa only [PyData.shown] using q
  | str x =>
    obtain ⟨t, rfl⟩ := ru
    refine PySem.P.repr_of_str ⟨.str _, H, I.tok _, ⟨_, rfl⟩, ?_⟩ (by simpa only [PyData.shown] using hz)
    simpa only [PyData.shown] using q
  | lst h1 h2 =>
    rename_i a ys ds
    cases (show u = Value.ref a from ru)
    exact repr_of_reads' rd hs (PyData.noDict_hsm (PyData.hasDict_of_canLay _ hc)) hg (by omega) (fun _ _ e => e) (fun h' u tk k => ⟨.str _, H, I.kept k, ⟨_, rfl⟩, q⟩) hz
  | tup h1 h2 =>
    rename_i a ys ds
    cases (show u = Value.ref a from ru)
    exact repr_of_reads' rd hs (PyData.noDict_hsm (PyData.hasDict_of_canLay _ hc)) hg (by omega) (fun _ _ e => e) (fun h' u tk k => ⟨.str _, H, I.kept k, ⟨_, rfl⟩, q⟩) hz
/-- len -/
def uLen (K : PySem.W.Frag) : List V → Hp → VK → Prop := fun xs H Q => (∃ x n, xs = [x] ∧ LenV K x H n ∧ Q (.int n) H) ∨ ∃ d kvs, xs = [.ref d] ∧ H d = some (.dK kvs) ∧ Q (.int (kvs.length : Nat)) H
theorem cr_len : CallR X (.builtin "len") (uLen X.K) := call_len.or call_lenD
/-- a constant of the module -/
theorem pe_globI {x : Str} {i : Int} {pos : Pos} (hg : Gl X x) (hm : ∃ t, X.mg x = some (.int i t)) (hd : (x == ("__debug__" : Str)) = false := by decide) : PE X (.Name x pos) (tC (.int i)) := by
  obtain ⟨t, hm⟩ := hm
  exact pe_glob hg hm ⟨t, rfl⟩ hd
theorem pe_globS {x z : Str} {pos : Pos} (hg : Gl X x) (hm : ∃ t, X.mg x = some (.str z t)) (hd : (x == ("__debug__" : Str)) = false := by decide) : PE X (.Name x pos) (tC (.str z)) := by
  obtain ⟨t, hm⟩ := hm
  exact pe_glob hg hm ⟨t, rfl⟩ hd
/-- o[i] -/
def uIx (K : PySem.W.Frag) : R2 := rIx K
theorem ix_any : IxR X (uIx X.K) := ix_seq
/-- slices of lists, tuples, texts -/
def uSl (K : PySem.W.Frag) : V → Option Int → Option Int → Hp → VK → Prop := fun x lo hi H Q => rSlL K x lo hi H Q ∨ rSlT K x lo hi H Q
theorem sl_any : SlR X (uSl X.K) := sl_list.or sl_tup
end
/-! ### readings, step by step -/
section
variable {K : PySem.W.Frag} {σ : L2.St} {H : Hp} {Q : VK} {D : Ends} {t u : TS} {te ta tb tc : TE} {tt : TT} {Rs : List Res} {E : XK}
theorem g_seq (k : t { D with nx := u D } σ H) : tSeq t u D σ H := k
theorem g_next (k : D.nx σ H) : tNext D σ H := k
theorem g_asg {i : Nat} (k : te σ H fun x H1 => D.nx (σ.set i (some x)) H1) : tAsg te (gName i) D σ H := k
theorem g_asgX {g : TG} (k : te σ H fun x H1 => g x σ H1 D.nx) : tAsg te g D σ H := k
theorem g_drop (k : te σ H fun _ H1 => D.nx σ H1) : tDrop te D σ H := k
theorem g_ret (k : te σ H D.rt) : tRet te D σ H := k
theorem g_retN (k : D.rt .non H) : tRetN D σ H := k
theorem g_if (k : tt σ H fun b H1 => if b = true then t D σ H1 else u D σ H1) : tIfS tt t u D σ H := k
theorem g_nx {f r b c} (k : f σ H) : (Ends.mk f r b c).nx σ H := k
theorem g_rt {f b c} {r : VK} {v : V} (k : r v H) : (Ends.mk f r b c).rt v H := k
theorem g_bk {f b c} {r : VK} (k : b σ H) : (Ends.mk f r b c).bk σ H := k
theorem g_ct {f b c} {r : VK} (k : c σ H) : (Ends.mk f r b c).ct σ H := k
theorem g_var {i : Nat} {v : V} (h : σ[i]? = some (some v)) (k : Q v H) : tVar i σ H Q := ⟨v, h, k⟩
theorem g_c {v : V} (k : Q v H) : tC v σ H Q := k
theorem g_op {r : R2} (k : ta σ H fun x H1 => tb σ H1 fun y H2 => r x y H2 Q) : tOp r ta tb σ H Q := k
theorem g_un {r : V → Hp → VK → Prop} (k : ta σ H fun x H1 => r x H1 Q) : tUn r ta σ H Q := k
theorem g_nil {Q : List V → Hp → Prop} (k : Q [] H) : tNil σ H Q := k
theorem g_cons {tr : TA} {Q : List V → Hp → Prop} (k : ta σ H fun x H1 => tr σ H1 fun xs H2 => Q (x :: xs) H2) : tCons ta tr σ H Q := k
theorem g_cb {r : List V → Hp → VK → Prop} {t : TA} (k : t σ H fun vs H1 => r vs H1 Q) : tCB r t σ H Q := k
theorem g_call {sp : Sp} {dvs : List V} {t : TA} (k : t σ H fun vs H1 => sp (vs ++ dvs) H1 Q E) : tCall sp dvs E t σ H Q := k
def LstK (Q : VK) : List V → Hp → Prop := fun xs H1 => xs.length ≤ sizeLine ∧ ∀ p, H1 p = none → Q (.ref p) (upd H1 p (.lst xs))
def TupK (Q : VK) : List V → Hp → Prop := fun xs H1 => xs.length ≤ sizeLine ∧ ∀ p, H1 p = none → Q (.ref p) (upd H1 p (.tup xs))
theorem g_lst {t : TA} (k : t σ H (LstK Q)) : tLst t σ H Q := k
theorem g_tup {t : TA} (k : t σ H (TupK Q)) : tTup t σ H Q := k
/-- a display is laid -/
theorem v_lst {xs : List V} (S : M Rs H) (hn : xs.length ≤ 100000) (k : ∀ p H', M (pt p (.lst xs) :: Rs) H' → Q (.ref p) H') : LstK Q xs H :=
  ⟨Nat.le_trans hn (by decide), fun p hp => k p _ (S.new hp)⟩
theorem v_tup {xs : List V} (S : M Rs H) (hn : xs.length ≤ 100000) (k : ∀ p H', M (pt p (.tup xs) :: Rs) H' → Q (.ref p) H') : TupK Q xs H :=
  ⟨Nat.le_trans hn (by decide), fun p hp => k p _ (S.new hp)⟩
theorem g_test {Q : Bool → Hp → Prop} (k : te σ H fun x H' => ∃ b, x = .bl b ∧ Q b H') : tTest te σ H Q := k
theorem g_B {Q : Bool → Hp → Prop} (k : te σ H fun x H' => ∃ b, x = .bl b ∧ Q b H') : tB te σ H Q := k
theorem g_bl {b : Bool} {Q : Bool → Prop} (k : Q b) : ∃ c, V.bl b = .bl c ∧ Q c := ⟨b, rfl, k⟩
theorem g_and {s : TT} {Q : Bool → Hp → Prop} (k : tt σ H fun c H1 => if c = true then s σ H1 Q else Q false H1) : tAnd tt s σ H Q := k
theorem g_or {s : TT} {Q : Bool → Hp → Prop} (k : tt σ H fun c H1 => if c = true then Q true H1 else s σ H1 Q) : tOr tt s σ H Q := k
theorem g_not {Q : Bool → Hp → Prop} (k : tt σ H fun c H1 => Q (!c) H1) : tNot tt σ H Q := k
theorem g_andV (k : ta σ H fun x H1 => ∃ c, x = .bl c ∧ if c = true then tb σ H1 Q else Q (.bl false) H1) : tAndV ta tb σ H Q := k
theorem g_orV (k : ta σ H fun x H1 => ∃ c, x = .bl c ∧ if c = true then Q (.bl true) H1 else tb σ H1 Q) : tOrV ta tb σ H Q := k
theorem g_notV (k : ta σ H fun x H1 => ∃ c, x = .bl c ∧ Q (.bl (!c)) H1) : tNotV ta σ H Q := k
theorem g_ifE (k : tt σ H fun c H1 => if c = true then ta σ H1 Q else tb σ H1 Q) : tIf tt ta tb σ H Q := k
theorem g_chain {r r' : R2} (k : ta σ H fun x H1 => tb σ H1 fun y H2 => r x y H2 fun z H3 => ∃ k, z = .bl k ∧ (if k = true then tc σ H3 fun w' H4 => r' y w' H4 Q else Q (.bl false) H3)) : tChain r r' ta tb tc σ H Q := k
theorem g_aug {i : Nat} {ti : TIp} {v : V} (h : σ[i]? = some (some v)) (k : te σ H fun y H1 => ti v y H1 fun z H2 => D.nx (σ.set i (some z)) H2) : tAug i te ti D σ H := ⟨v, h, k⟩
theorem g_augS {tget : V → V → Hp → VK → Prop} {tip : TIp} {tset : TSet} (k : ta σ H fun o H1 => tb σ H1 fun i H2 => tget o i H2 fun x H3 => te σ H3 fun y H4 => tip x y H4 fun z H5 => tset o i z H5 fun H6 => D.nx σ H6) :
    tAugS ta tb te tget tip tset D σ H := k
theorem g_sub {t3 : TSet} {v : V} {Q : L2.St → Hp → Prop} (k : ta σ H fun o H1 => tb σ H1 fun i H2 => t3 o i v H2 fun H3 => Q σ H3) : gSub ta tb t3 v σ H Q := k
theorem g_sl {r : V → Option Int → Option Int → Hp → VK → Prop} {tl th : TO} (k : te σ H fun x H1 => tl σ H1 fun l H2 => th σ H2 fun u H3 => r x l u H3 Q) : tSl r te tl th σ H Q := k
theorem g_noPart {Q : Option Int → Hp → Prop} (k : Q none H) : tNoPart σ H Q := k
theorem g_part {Q : Option Int → Hp → Prop} (k : te σ H fun x H1 => ∃ i, x = .int i ∧ Q (some i) H1) : tPart te σ H Q := k
theorem g_int {i : Int} {Q : Int → Prop} (k : Q i) : ∃ j, V.int i = .int j ∧ Q j := ⟨i, rfl, k⟩
/-! values -/
theorem v_add {i j : Int} (k : Q (.int (i + j)) H) : uAdd K (.int i) (.int j) H Q := .inl ⟨i, j, rfl, rfl, k⟩
theorem v_sub {i j : Int} (k : Q (.int (i - j)) H) : uSub (.int i) (.int j) H Q := ⟨i, j, rfl, rfl, k⟩
theorem v_mul {i j : Int} (h : CMul i j ∨ CMulW i j) (k : Q (.int (i * j)) H) : uMul (.int i) (.int j) H Q := h.elim (fun h => .inl ⟨i, j, rfl, rfl, h, k⟩) fun h => .inr (.inl ⟨i, j, rfl, rfl, h, k⟩)
theorem v_mod {i j : Int} (h : 0 < j) (k : Q (.int (i % j)) H) : uMod (.int i) (.int j) H Q := ⟨i, j, rfl, rfl, h, k⟩
theorem div_ok {i j : Int} (h : 0 < j ∧ j < 2 ^ 64) : CDivW i j := wide_div (b := 64) h.1 (by omega) (by decide) (by decide)
theorem v_div {i j : Int} (h : 0 < j ∧ j < 2 ^ 64) (k : Q (.int (i / j)) H) : uDiv (.int i) (.int j) H Q := ⟨i, j, rfl, rfl, div_ok h, k⟩
theorem v_iadd {i j : Int} (k : Q (.int (i + j)) H) : iAdd (.int i) (.int j) H Q := .inl ⟨i, j, rfl, rfl, k⟩
theorem v_isub {i j : Int} (k : Q (.int (i - j)) H) : iSub (.int i) (.int j) H Q := ⟨i, j, rfl, rfl, k⟩
theorem v_imul {i j : Int} (h : CMul i j) (k : Q (.int (i * j)) H) : iMul (.int i) (.int j) H Q := ⟨i, j, rfl, rfl, h, k⟩
theorem v_idiv {i j : Int} (h : CDiv i j) (k : Q (.int (i / j)) H) : iDiv (.int i) (.int j) H Q := ⟨i, j, rfl, rfl, h, k⟩
theorem v_lt {i j : Int} (k : Q (.bl (decide (i < j))) H) : uLt (.int i) (.int j) H Q := ⟨i, j, rfl, rfl, k⟩
theorem v_le {i j : Int} (k : Q (.bl (decide (i ≤ j))) H) : uLe (.int i) (.int j) H Q := ⟨i, j, rfl, rfl, k⟩
theorem v_gt {i j : Int} (k : Q (.bl (decide (j < i))) H) : uGt (.int i) (.int j) H Q := ⟨i, j, rfl, rfl, k⟩
theorem v_ge {i j : Int} (k : Q (.bl (decide (j ≤ i))) H) : uGe (.int i) (.int j) H Q := ⟨i, j, rfl, rfl, k⟩
theorem v_eqI {i j : Int} (k : Q (.bl (decide (i = j))) H) : uEq K (.int i) (.int j) H Q := .inl ⟨rfl, by
  have e : decide (V.int i = V.int j) = decide (i = j) := decide_eq_decide.mpr ⟨fun h => V.int.inj h, fun h => by rw [h]⟩
  rw [e]
  exact k⟩
theorem v_neI {i j : Int} (k : Q (.bl (!decide (i = j))) H) : uNe K (.int i) (.int j) H Q := .inl ⟨rfl, by
  have e : decide (V.int i = V.int j) = decide (i = j) := decide_eq_decide.mpr ⟨fun h => V.int.inj h, fun h => by rw [h]⟩
  rw [e]
  exact k⟩
theorem v_eqS {i j : Str} (k : Q (.bl (decide (i = j))) H) : uEq K (.str i) (.str j) H Q := .inl ⟨rfl, by
  have e : decide (V.str i = V.str j) = decide (i = j) := decide_eq_decide.mpr ⟨fun h => V.str.inj h, fun h => by rw [h]⟩
  rw [e]
  exact k⟩
theorem v_eqB {i j : Bool} (k : Q (.bl (decide (i = j))) H) : uEq K (.bl i) (.bl j) H Q := .inl ⟨rfl, by
  have e : decide (V.bl i = V.bl j) = decide (i = j) := decide_eq_decide.mpr ⟨fun h => V.bl.inj h, fun h => by rw [h]⟩
  rw [e]
  exact k⟩
theorem v_neB {i j : Bool} (k : Q (.bl (!decide (i = j))) H) : uNe K (.bl i) (.bl j) H Q := .inl ⟨rfl, by
  have e : decide (V.bl i = V.bl j) = decide (i = j) := decide_eq_decide.mpr ⟨fun h => V.bl.inj h, fun h => by rw [h]⟩
  rw [e]
  exact k⟩
theorem v_eqD {x y : V} {d e : PyData} (h1 : Dp K H x d) (h2 : Dp K H y e) (s1 : SeqAt.shaped d = true) (s2 : SeqAt.shaped e = true) (k : Q (.bl (PyData.eqv d e)) H) : uEq K x y H Q := .inr ⟨d, e, h1, h2, s1, s2, k⟩
theorem v_neD {x y : V} {d e : PyData} (h1 : Dp K H x d) (h2 : Dp K H y e) (s1 : SeqAt.shaped d = true) (s2 : SeqAt.shaped e = true) (k : Q (.bl (!PyData.eqv d e)) H) : uNe K x y H Q := .inr ⟨d, e, h1, h2, s1, s2, k⟩
theorem v_ixL {p : Addr} {xs : List V} {i : Int} {v : V} (h : SqL K H p xs) (ha : atI xs i = some v) (k : Q v H) : uIx K (.ref p) (.int i) H Q := .inl ⟨p, xs, i, v, rfl, rfl, h, ha, k⟩
theorem v_ixT {p : Addr} {xs : List V} {i : Int} {v : V} (h : SqT K H p xs) (ha : atI xs i = some v) (k : Q v H) : uIx K (.ref p) (.int i) H Q := .inr (.inl ⟨p, xs, i, v, rfl, rfl, h, ha, k⟩)
theorem v_get {p : Addr} {xs : List V} {n : Int} {v : V} (h : SqL K H p xs) (h0 : 0 ≤ n) (ha : xs[n.toNat]? = some v) (k : Q v H) : gIx K (.ref p) (.int n) H Q := .inl ⟨p, xs, n, v, rfl, rfl, h, h0, ha, k⟩
theorem ixN_int {n : Nat} {i : Int} (h0 : 0 ≤ i) (h1 : i < n) : ixN n i = some i.toNat := by
  unfold ixN
  rw [if_pos h0, if_pos h1]
theorem atI_int {α : Type} {xs : List α} {i : Int} {v : α} (h0 : 0 ≤ i) (h : xs[i.toNat]? = some v) : atI xs i = some v := by
  have hl := (List.getElem?_eq_some_iff.mp h).1
  unfold atI
  rw [ixN_int h0 (by omega)]
  exact h
theorem atI_ints {ns : List Int} {i : Int} (h0 : 0 ≤ i) (h1 : i < ns.length) : atI (ns.map V.int) i = some (.int (ns.getD i.toNat 0)) := by
  refine atI_int h0 ?_
  have hl : i.toNat < ns.length := by omega
  rw [List.getElem?_map, List.getElem?_eq_getElem hl, List.getD_eq_getElem?_getD, List.getElem?_eq_getElem hl]
  rfl
theorem ixN_nat {n j : Nat} (hj : j < n) : ixN n (j : Int) = some j := by
  unfold ixN
  rw [if_pos (Int.natCast_nonneg j), if_pos (by omega)]
  simp
/-- xs[j] = v, the list owned -/
theorem v_set {p : Addr} {xs : List V} {n : Int} {j : Nat} {v : V} {Q : Hp → Prop} (S : M Rs H) (i : Nat) (e : Rs[i]? = some (pt p (.lst xs))) (hj : ixN xs.length n = some j) (k : ∀ H', M (Rs.set i (pt p (.lst (xs.set j v)))) H' → Q H') :
    uSet (.ref p) (.int n) v H Q := .inl ⟨p, xs, n, j, rfl, rfl, S.got i e, hj, k _ (S.putAt i e)⟩
theorem v_cat {a b : Addr} {xs ys : List V} (S : M Rs H) (h1 : H a = some (.lst xs)) (h2 : H b = some (.lst ys)) (hz : xs.length + ys.length ≤ 100000) (k : ∀ p H', M (pt p (.lst (xs ++ ys)) :: Rs) H' → Q (.ref p) H') : uAdd K (.ref a) (.ref b) H Q :=
  .inr (.inr (.inl ⟨a, b, xs, ys, rfl, rfl, SqL.of h1, SqL.of h2, Nat.le_trans hz (by decide), fun p hp => k p _ (S.new hp)⟩))
theorem v_catS {a b : Addr} {xs ys : List V} (S : M Rs H) (h1 : SqL K H a xs) (h2 : SqL K H b ys) (hz : xs.length + ys.length ≤ 100000) (k : ∀ p H', M (pt p (.lst (xs ++ ys)) :: Rs) H' → Q (.ref p) H') : uAdd K (.ref a) (.ref b) H Q :=
  .inr (.inr (.inl ⟨a, b, xs, ys, rfl, rfl, h1, h2, Nat.le_trans hz (by decide), fun p hp => k p _ (S.new hp)⟩))
theorem v_slL {a : Addr} {xs : List V} {lo hi : Option Int} (S : M Rs H) (h : SqL K H a xs) (k : ∀ p H', M (pt p (.lst (cutV xs lo hi)) :: Rs) H' → Q (.ref p) H') : uSl K (.ref a) lo hi H Q :=
  .inl ⟨a, xs, rfl, h, fun p hp => k p _ (S.new hp)⟩
def RevK (K : PySem.W.Frag) (Q : VK) : VK := fun x H1 => ∃ a xs, x = .ref a ∧ SqL K H1 a xs ∧ ∀ p, H1 p = none → Q (.ref p) (upd H1 p (.lst xs.reverse))
theorem g_rev (k : te σ H (RevK K Q)) : tRevL K te σ H Q := k
theorem v_rev {a : Addr} {xs : List V} (S : M Rs H) (h : SqL K H a xs) (k : ∀ p H', M (pt p (.lst xs.reverse) :: Rs) H' → Q (.ref p) H') : RevK K Q (.ref a) H :=
  ⟨a, xs, rfl, h, fun p hp => k p _ (S.new hp)⟩
theorem v_lenL {a : Addr} {xs : List V} (h : SqL K H a xs) (k : Q (.int (xs.length : Nat)) H) : uLen K [.ref a] H Q := .inl ⟨_, _, rfl, .inl ⟨xs, h, rfl⟩, k⟩
/-- xs.append(v) -/
theorem g_bm {T : String} {r : V → List V → Hp → VK → Prop} {t : TA} (k : te σ H fun x H1 => tyV K T x H1 ∧ t σ H1 fun xs H2 => r x xs H2 Q) : tBM K T r te t σ H Q := k
theorem g_bm0 {T : String} {r : V → List V → Hp → VK → Prop} (k : te σ H fun x H1 => tyV K T x H1 ∧ r x [] H1 Q) : tBM0 K T r te σ H Q := k
theorem v_tyL {a : Addr} {xs : List V} {φ : Prop} (h : SqL K H a xs) (k : φ) : tyV K "list" (.ref a) H ∧ φ := ⟨.inl ⟨rfl, xs, h⟩, k⟩
theorem v_app {p : Addr} {xs : List V} {v : V} (S : M Rs H) (i : Nat) (e : Rs[i]? = some (pt p (.lst xs))) (hz : xs.length < 100000) (k : ∀ H', M (Rs.set i (pt p (.lst (xs ++ [v])))) H' → Q .non H') : rAppend (.ref p) [v] H Q :=
  ⟨p, xs, v, rfl, rfl, S.got i e, Nat.lt_of_lt_of_le hz (by decide), k _ (S.putAt i e)⟩
theorem v_if {b : Bool} {A B : Prop} (h1 : b = true → A) (h2 : b = false → B) : if b = true then A else B := by
  cases b with
  | true => exact h1 rfl
  | false => exact h2 rfl
theorem v_ifD {c : Prop} [Decidable c] {A B : Prop} (h1 : c → A) (h2 : ¬ c → B) : if decide c = true then A else B := by
  by_cases h : c
  · rw [decide_eq_true h]
    exact h1 h
  · rw [decide_eq_false h]
    exact h2 h
theorem v_ifN {c : Prop} [Decidable c] {A B : Prop} (h1 : ¬ c → A) (h2 : c → B) : if (!decide c) = true then A else B := by
  by_cases h : c
  · rw [decide_eq_true h]
    exact h2 h
  · rw [decide_eq_false h]
    exact h1 h
theorem v_ifT {A B : Prop} (k : A) : if true = true then A else B := k
theorem v_ifF {A B : Prop} (k : B) : if false = true then A else B := k
end
end RC
namespace RC
open PySem PySem.Spec PyProof.Rows L2
/-- the function object at an address -/
def fdOf (K : PySem.W.Frag) (f : Addr) : FuncData := match K.lookup f with
  | some ⟨_, _, .func fd, _⟩ => fd
  | _ => PySem.W.fnOf "" "" ⟨[], [], none, [], [], none, []⟩ [] ⟨.function, [], false, false, []⟩ .none .none .none .none none .none .none
theorem fd_of {K : PySem.W.Frag} {x q : Str} {ar : Arguments} {bd : List Stmt} {sc : Scope} {dvs : List V} {kws : List (Str × V)} {f : Addr} (h : ∃ fd, FunD K x q ar bd sc dvs kws f fd) : FunD K x q ar bd sc dvs kws f (fdOf K f) := by
  obtain ⟨fd, F⟩ := h
  have e : fdOf K f = fd := by
    obtain ⟨⟨oc, od, dV, kV, doc, pm, an, cdv, ct, osl, rfl, lk, _, _, _⟩, _⟩ := F
    unfold fdOf
    rw [lk]
  rw [e]
  exact F
/-- a list that may be read for ever -/
def rdL (K : PySem.W.Frag) (a : Addr) (xs : List V) : Res := ⟨fun F l => l = [] ∧ SqL K F a xs, fun _ _ _ e h => ⟨h.1, e.sqL h.2⟩⟩
theorem M.start {K : PySem.W.Frag} {H : Hp} {a : Addr} {xs : List V} (h : SqL K H a xs) : M [rdL K a xs] H :=
  ⟨H, [], ⟨[], [], rfl, ⟨rfl, h⟩, rfl⟩, ⟨Ext.refl H, (fun _ h => nomatch h), List.nodup_nil⟩⟩
theorem M.gotR {K : PySem.W.Frag} {Rs : List Res} {H : Hp} {a : Addr} {xs : List V} (h : M Rs H) (i : Nat) (e : Rs[i]? = some (rdL K a xs)) : SqL K H a xs := by
  obtain ⟨F, L, ⟨l1, l2, rfl, ⟨_, q⟩, b⟩, m⟩ := h.at i e
  exact m.ex.sqL q
/-- what the resources bring about -/
def Ent (Rs : List Res) (φ : Hp → Prop) : Prop := ∀ H, M Rs H → φ H
def rAbs : List V → Hp → VK → Prop := fun xs H Q => ∃ i, xs = [.int i] ∧ Q (.int (if i < 0 then -i else i)) H
theorem cr_abs {X : Cx} : CallR X (.builtin "abs") rAbs := call_abs
def rListOf (K : PySem.W.Frag) : List V → Hp → VK → Prop := fun xs H Q => ∃ p ys, xs = [.ref p] ∧ (SqL K H p ys ∨ SqT K H p ys) ∧ ∀ l, H l = none → Q (.ref l) (upd H l (.lst ys))
theorem cr_list {X : Cx} : CallR X (.type "list") (rListOf X.K) := call_list_of
theorem v_abs {i : Int} {H : Hp} {Q : VK} (k : Q (.int (if i < 0 then -i else i)) H) : rAbs [.int i] H Q := ⟨i, rfl, k⟩
theorem v_list {K : PySem.W.Frag} {Rs : List Res} {H : Hp} {Q : VK} {a : Addr} {xs : List V} (S : M Rs H) (h : SqL K H a xs ∨ SqT K H a xs) (k : ∀ p H', M (pt p (.lst xs) :: Rs) H' → Q (.ref p) H') : rListOf K [.ref a] H Q :=
  ⟨a, xs, rfl, h, fun p hp => k p _ (S.new hp)⟩
def rIsN : R2 := fun x y H Q => y = .non ∧ Q (.bl (decide (x = .non))) H
def rNotN : R2 := fun x y H Q => y = .non ∧ Q (.bl (!decide (x = .non))) H
end RC
namespace RC
open PySem PySem.Spec PyProof.Rows L2
/-! ### loops -/
def ForW (J : It) (g : TG) (tb : TS) (D : Ends) (σ : L2.St) (H1 : Hp) : Prop := ∃ W : Nat → Nat → L2.St → Hp → Prop, (∃ m, W 0 m σ H1) ∧ ∀ i m σ H, W i m σ H →
  (J.stop i H ∧ D.nx σ H) ∨ (J.go i H ∧ ∃ N : L2.St → Hp → Prop, (∀ σ' H', N σ' H' → ∃ m', m' < m ∧ W (i + 1) m' σ' H') ∧ ∀ x H', J.yld i H x H' → g x σ H' fun σ2 H2 => tb { D with nx := N, ct := N, bk := D.nx } σ2 H2)
def LcW (J : It) (g : TG) (tt : TT) (te : TE) (vs : List Nat) (σ : L2.St) (Q : VK) (H1 : Hp) : Prop := ∀ D, H1 D = none → ∃ W : Nat → Nat → Hp → Prop, (∃ m, W 0 m (upd H1 D (.lst []))) ∧ ∀ i m H, W i m H →
  (J.stop i H ∧ Q (.ref D) H) ∨ (J.go i H ∧ ∃ Nx : Hp → Prop, (∀ H', Nx H' → ∃ m', m' < m ∧ W (i + 1) m' H') ∧ ∀ x H', J.yld i H x H' → g x (wipe σ vs) H' fun σ2 H2 => wipe σ2 vs = wipe σ vs ∧ tt σ2 H2 fun b H3 =>
    if b = true then te σ2 H3 fun y H4 => ∃ acc, H4 D = some (.lst acc) ∧ acc.length < sizeLine ∧ Nx (upd H4 D (.lst (acc ++ [y]))) else Nx H3)
section
variable {K : PySem.W.Frag} {σ : L2.St} {H : Hp} {Q : VK} {D : Ends} {tb : TS} {te tl : TE} {ta : TA} {tt : TT} {g : TG} {vs : List Nat} {wi : TI} {J : It} {R : It → Hp → Prop} {a : Addr} {xs : List V} {Rs : List Res}
theorem g_for (k : wi σ H fun J H1 => ForW J g tb D σ H1) : tFor wi g tb D σ H := k
theorem g_lc (k : wi σ H fun J H1 => LcW J g tt te vs σ Q H1) : tLc wi g tt te vs σ H Q := k
def ItL (K : PySem.W.Frag) (R : It → Hp → Prop) : VK := fun x H1 => ∃ a, x = .ref a ∧ (∃ xs, SqL K H1 a xs) ∧ R (Itl K a) H1
def ItR (R : It → Hp → Prop) : List V → Hp → Prop := fun vs H1 => ∃ j : Int, vs = [.int j] ∧ -(2 ^ 62) ≤ j ∧ j < 2 ^ 62 ∧ R (Itr 0 j.toNat) H1
def ItV (K : PySem.W.Frag) (R : It → Hp → Prop) : List V → Hp → Prop := fun vs H1 => ∃ (a : Addr) (xs : List V), vs = [.ref a] ∧ SqL K H1 a xs ∧ R (Itv K a xs.length) H1
theorem g_iList (k : tl σ H (ItL K R)) : iList K tl σ H R := k
theorem v_itL (h : SqL K H a xs) (k : R (Itl K a) H) : ItL K R (.ref a) H := ⟨a, rfl, ⟨xs, h⟩, k⟩
theorem g_iRng1 (k : ta σ H (ItR R)) : iRng1 ta σ H R := k
theorem v_itR {j : Int} (h : -(2 ^ 62) ≤ j ∧ j < 2 ^ 62) (k : R (Itr 0 j.toNat) H) : ItR R [V.int j] H := ⟨j, rfl, h.1, h.2, k⟩
theorem g_iRev (k : ta σ H (ItV K R)) : iRev K ta σ H R := k
theorem v_itV (h : SqL K H a xs) (k : R (Itv K a xs.length) H) : ItV K R [V.ref a] H := ⟨a, xs, rfl, h, k⟩
/-- a for, by a word of the turn, the slots and the heap -/
theorem for_W {n : Nat} {G : Hp → Prop} {Y : Nat → Hp → V → Hp → Prop} (w : Walk J n G Y) (Pv : Nat → L2.St → Hp → Prop) (h0 : Pv 0 σ H) (hG : ∀ i σ H, i ≤ n → Pv i σ H → G H)
    (hs : ∀ i x σ H H', i < n → Pv i σ H → Y i H x H' → g x σ H' fun σ2 H2 => tb { D with nx := Pv (i + 1), ct := Pv (i + 1), bk := D.nx } σ2 H2) (hd : ∀ σ H, Pv n σ H → D.nx σ H) : ForW J g tb D σ H := for_it w Pv h0 hG hs hd
/-- a comprehension: P of the turn and the items so far; the resources Rs stand at each turn -/
def PvM (P : Nat → List V → Prop) (E : Addr) (Rs : List Res) (i : Nat) (H : Hp) : Prop := ∃ acc, P i acc ∧ M (pt E (.lst acc) :: Rs) H
def LcK (N : Hp → Prop) (E : Addr) : VK := fun y H4 => ∃ acc, H4 E = some (.lst acc) ∧ acc.length < sizeLine ∧ N (upd H4 E (.lst (acc ++ [y])))
theorem lc_W {n : Nat} {G : Hp → Prop} {Y : Nat → Hp → V → Hp → Prop} (w : Walk J n G Y) (S : M Rs H) (P : Nat → List V → Prop) (h0 : P 0 []) (hG : ∀ H, M Rs H → G H)
    (hs : ∀ i x acc E H H', i < n → P i acc → M (pt E (.lst acc) :: Rs) H → Y i H x H' → g x (wipe σ vs) H' fun σ2 H2 => wipe σ2 vs = wipe σ vs ∧ tt σ2 H2 fun b H3 => if b = true then te σ2 H3 (LcK (PvM P E Rs (i + 1)) E) else PvM P E Rs (i + 1) H3)
    (hd : ∀ E acc H, P n acc → M (pt E (.lst acc) :: Rs) H → Q (.ref E) H) : LcW J g tt te vs σ Q H := by
  intro E hE
  refine lc_it w (PvM P E Rs) ⟨[], h0, S.new hE⟩ (fun i H _ ⟨acc, _, S⟩ => hG H S.tl) (fun i x H H' hi ⟨acc, hp, S⟩ y => hs i x acc E H H' hi hp S y) fun H ⟨acc, hp, S⟩ => hd E acc H hp S
theorem lc_next {N : Hp → Prop} {E : Addr} {y : V} {acc : List V} (S : M Rs H) (i : Nat) (e : Rs[i]? = some (pt E (.lst acc))) (hz : acc.length < 100000) (k : ∀ H', M (Rs.set i (pt E (.lst (acc ++ [y])))) H' → N H') : LcK N E y H :=
  ⟨acc, S.got i e, Nat.lt_of_lt_of_le hz (by decide), k _ (S.putAt i e)⟩
theorem g_yes {Q : Bool → Hp → Prop} (k : Q true H) : tYes σ H Q := k
theorem g_name {i : Nat} {v : V} {Q : L2.St → Hp → Prop} (k : Q (σ.set i (some v)) H) : gName i v σ H Q := k
end
theorem ints_get {ns : List Int} {i : Nat} {x : V} (h : (ns.map V.int)[i]? = some x) : ∃ n, ns[i]? = some n ∧ x = .int n := by
  rw [List.getElem?_map] at h
  cases e : ns[i]? with
  | none =>
    rw [e] at h
    cases h
  | some n =>
    rw [e] at h
    exact ⟨n, rfl, (Option.some.inj h).symm⟩
theorem take_more {α : Type} {l : List α} {i : Nat} {x : α} (h : l[i]? = some x) : l.take (i + 1) = l.take i ++ [x] := by
  rw [List.take_add_one, h]
  rfl
end RC
namespace RC
open PySem PySem.Spec PyProof.Rows L2
theorem cut_to (xs : List V) (k : Nat) : cutV xs none (some (k : Int)) = xs.take k := by
  unfold cutV
  rw [HT.sIx_none, HT.sIx_nat, List.drop_zero, Nat.sub_zero]
  rcases Nat.le_total k xs.length with h | h
  · rw [Nat.min_eq_left h]
  · rw [Nat.min_eq_right h, List.take_of_length_le (Nat.le_refl _), List.take_of_length_le h]
theorem cut_from (xs : List V) (k : Nat) : cutV xs (some (k : Int)) none = xs.drop k := by
  unfold cutV
  rw [HT.sIx_none, HT.sIx_nat]
  rcases Nat.le_total k xs.length with h | h
  · rw [Nat.min_eq_left h, List.take_of_length_le]
    rw [List.length_drop]
    exact Nat.le_refl _
  · rw [Nat.min_eq_right h, List.drop_of_length_le h, List.drop_of_length_le (Nat.le_refl _), List.take_nil]
theorem cut_mid (xs : List V) (a b : Nat) : cutV xs (some (a : Int)) (some (b : Int)) = (xs.drop a).take (b - a) := by
  unfold cutV
  rw [HT.sIx_nat, HT.sIx_nat]
  rcases Nat.le_total a xs.length with h | h
  · rw [Nat.min_eq_left h]
    rcases Nat.le_total b xs.length with g | g
    · rw [Nat.min_eq_left g]
    · rw [Nat.min_eq_right g, List.take_of_length_le, List.take_of_length_le]
      · rw [List.length_drop]
        omega
      · rw [List.length_drop]
        exact Nat.le_refl _
  · rw [Nat.min_eq_right h, List.drop_of_length_le h, List.drop_of_length_le (Nat.le_refl _), List.take_nil, List.take_nil]
theorem g_wipe {a b : L2.St} {φ : Prop} (h : a = b) (k : φ) : a = b ∧ φ := ⟨h, k⟩
end RC
namespace RC
open PySem PySem.Spec PyProof.Rows L2
/-- all are ints of which P holds -/
def AllI (P : Int → Prop) : List V → Prop
  | [] => True
  | .int n :: r => P n ∧ AllI P r
  | _ => False
theorem AllI.get {P : Int → Prop} : ∀ {xs : List V}, AllI P xs → ∀ {j : Nat}, j < xs.length → ∃ n, P n ∧ xs[j]? = some (.int n)
  | [], _, j, h => absurd h (Nat.not_lt_zero _)
  | .int n :: r, h, 0, _ => ⟨n, h.1, rfl⟩
  | .int n :: r, h, j + 1, hj => by
    obtain ⟨m, a, b⟩ := AllI.get h.2 (Nat.lt_of_succ_lt_succ hj)
    exact ⟨m, a, by simpa using b⟩
  | .non :: _, h, _, _ => h.elim
  | .bl _ :: _, h, _, _ => h.elim
  | .str _ :: _, h, _, _ => h.elim
  | .byt _ :: _, h, _, _ => h.elim
  | .flt _ :: _, h, _, _ => h.elim
  | .ref _ :: _, h, _, _ => h.elim
  | .ty _ :: _, h, _, _ => h.elim
/-- one of a written menu of ints -/
theorem menuI {xs : List V} {v : Int} (P : Int → Prop) (h : AllI P xs) (h0 : 0 ≤ v) (h1 : v < xs.length) : ∃ n, P n ∧ atI xs v = some (.int n) := by
  obtain ⟨n, a, b⟩ := h.get (j := v.toNat) (by omega)
  exact ⟨n, a, atI_int h0 b⟩
/-- one of a written menu -/
theorem menu {xs : List V} {v : Int} (h0 : 0 ≤ v) (h1 : v < xs.length) : ∃ x, x ∈ xs ∧ atI xs v = some x := by
  have hl : v.toNat < xs.length := by omega
  exact ⟨xs[v.toNat], List.getElem_mem hl, atI_int h0 (List.getElem?_eq_getElem hl)⟩
theorem set_len {α : Type} {l : List α} {i : Nat} {x : α} : (l.set i x).length = l.length := List.length_set
theorem map_set {α β : Type} (f : α → β) (l : List α) (i : Nat) (x : α) : (l.map f).set i (f x) = (l.set i x).map f := (List.map_set).symm
end RC
namespace RC
theorem v_ifNT {A B : Prop} (k : B) : if (!true) = true then A else B := k
theorem v_ifNF {A B : Prop} (k : A) : if (!false) = true then A else B := k
end RC
namespace RC
open PySem PySem.Spec PyProof.Rows L2
/-- some of the resources, in another order -/
def Sub (Rs' Rs : List Res) : Prop := ∀ F L, Sat F Rs L → ∃ L1 L2, L.Perm (L1 ++ L2) ∧ Sat F Rs' L1
theorem Sub.refl (Rs : List Res) : Sub Rs Rs := fun _ L h => ⟨L, [], by rw [List.append_nil], h⟩
theorem Sub.nil (Rs : List Res) : Sub [] Rs := fun _ L _ => ⟨[], L, .refl _, rfl⟩
theorem Sub.cons {Rs Rs' : List Res} {R : Res} (i : Nat) (e : Rs[i]? = some R) (h : Sub Rs' (Rs.eraseIdx i)) : Sub (R :: Rs') Rs := by
  intro F L s
  obtain ⟨L0, p0, l1, l2, rfl, a, b⟩ := s.perm (perm_at i e)
  obtain ⟨L1, L2, p1, c⟩ := h F l2 b
  refine ⟨l1 ++ L1, L2, p0.trans ?_, l1, L1, rfl, a, c⟩
  rw [List.append_assoc]
  exact p1.append_left l1
theorem Sub.tl {Rs Rs' : List Res} {R : Res} (h : Sub Rs' Rs) : Sub Rs' (R :: Rs) := by
  rintro F L ⟨l1, l2, rfl, a, b⟩
  obtain ⟨L1, L2, p1, c⟩ := h F l2 b
  refine ⟨L1, l1 ++ L2, (p1.append_left l1).trans ?_, c⟩
  rw [← List.append_assoc, ← List.append_assoc]
  exact List.Perm.append_right _ List.perm_append_comm
theorem M.sub {Rs Rs' : List Res} {H : Hp} (q : Sub Rs' Rs) (h : M Rs H) : M Rs' H := by
  obtain ⟨F, L, a, m⟩ := h
  obtain ⟨L1, L2, p, b⟩ := q F L a
  have m2 := m.perm p
  refine ⟨F, L1, b, m2.ex, fun c hc => m2.own c (List.mem_append_left _ hc), ?_⟩
  have nd := m2.nd
  rw [List.map_append] at nd
  exact (List.nodup_append.mp nd).1
end RC
namespace RC
open PySem PySem.Spec PyProof.Rows L2
section
variable {X : Cx}
theorem units65 {k : Nat} {A : Around} (hr : Room k A) : A.units + 65 < cLine := by
  have := hr.un
  omega
def rDIn : R2 := fun x y H Q => ∃ a o, y = .ref a ∧ DGet H a x o ∧ Q (.bl o.isSome) H
def rDNotIn : R2 := fun x y H Q => ∃ a o, y = .ref a ∧ DGet H a x o ∧ Q (.bl (!o.isSome)) H
theorem op_din (hu : X.A.units + 1 < cLine) : OpR X (compareOp .In) rDIn := by
  intro pins s σ H x y v u Q I rx ry h
  obtain ⟨a, o, rfl, g, q⟩ := h
  cases (show u = Value.ref a from ry)
  exact d_in hu I g rx fun s' I' => ⟨.bl o.isSome, H, I', rfl, q⟩
theorem op_dnotin (hu : X.A.units + 1 < cLine) : OpR X (compareOp .NotIn) rDNotIn := by
  intro pins s σ H x y v u Q I rx ry h
  obtain ⟨a, o, rfl, g, q⟩ := h
  cases (show u = Value.ref a from ry)
  exact d_notIn hu I g rx fun s' I' => ⟨.bl (!o.isSome), H, I', rfl, q⟩
def rInS : R2 := fun x y H Q => ∃ i j, x = .str i ∧ y = .str j ∧ Q (.bl (!(Builtin.Str.occurrences j i 0 j.length 1).isEmpty)) H
def rNotInS : R2 := fun x y H Q => ∃ i j, x = .str i ∧ y = .str j ∧ Q (.bl (!(!(Builtin.Str.occurrences j i 0 j.length 1).isEmpty))) H
def uIn (K : PySem.W.Frag) : R2 := fun x y H Q => rIn K false x y H Q ∨ rInD K x y H Q ∨ rDIn x y H Q ∨ rInS x y H Q
def uNotIn (K : PySem.W.Frag) : R2 := fun x y H Q => rIn K true x y H Q ∨ rNotInD K x y H Q ∨ rDNotIn x y H Q ∨ rNotInS x y H Q
theorem uo_in {k : Nat} (hr : Room k X.A) : OpR X (compareOp .In) (uIn X.K) := op_in_seq.or ((op_inD (units65 hr)).or ((op_din (hu_of hr)).or op_in_str))
theorem uo_notin {k : Nat} (hr : Room k X.A) : OpR X (compareOp .NotIn) (uNotIn X.K) := op_notIn_seq.or ((op_notInD (units65 hr)).or ((op_dnotin (hu_of hr)).or op_notin_str))
theorem op_isN' : OpR X (compareOp .Is) rIsN := op_isN
theorem op_notN' : OpR X (compareOp .IsNot) rNotN := op_notN
end
section
variable {K : PySem.W.Frag} {σ : L2.St} {H : Hp} {Q : VK} {D : Ends} {Rs : List Res} {E : XK}
theorem v_neg {i : Int} (k : Q (.int (-i)) H) : rU (fun i => .int (-i)) (.int i) H Q := ⟨i, rfl, k⟩
theorem v_isN {x : V} (k : Q (.bl (decide (x = .non))) H) : rIsN x .non H Q := ⟨rfl, k⟩
theorem v_notN {x : V} (k : Q (.bl (!decide (x = .non))) H) : rNotN x .non H Q := ⟨rfl, k⟩
theorem g_par {i j : Nat} {ta : TA} (k : ta σ H fun vs H1 => ∃ v w, vs = [v, w] ∧ D.nx ((σ.set i (some v)).set j (some w)) H1) : tPar i j ta D σ H := k
theorem v_two {x y : V} {P : V → V → Prop} (k : P x y) : ∃ v w, [x, y] = [v, w] ∧ P v w := ⟨x, y, rfl, k⟩
theorem g_callN {n m : Nat} {sp : Sp} {gV : List V → List V → List V} {t tk : TA} (k : t σ H fun vs H1 => tk σ H1 fun zs H2 => vs.length = n ∧ zs.length = m ∧ sp (gV vs zs) H2 Q E) : tCallN n m sp gV E t tk σ H Q := k
theorem g_callP {n m l : Nat} {π : {α : Type} → List α → List α} {sp : Sp} {gV : List V → List V → List V} {t tk : TA} (k : t σ H fun vs H1 => tk σ H1 fun zs H2 => vs.length = n ∧ zs.length = m ∧ (gV vs zs).length = l ∧ sp (π (gV vs zs)) H2 Q E) : tCallP n m l π sp gV E t tk σ H Q := k
theorem v_lens {a b : List V} {n m : Nat} {P : Prop} (h1 : a.length = n) (h2 : b.length = m) (k : P) : a.length = n ∧ b.length = m ∧ P := ⟨h1, h2, k⟩
/-- a, b = t -/
theorem g_gtup {n : Nat} {t : TGs} {a : Addr} {xs : List V} {Q : L2.St → Hp → Prop} (h : SqT K H a xs) (hn : xs.length = n) (k : t xs σ H Q) : gTup K n t (.ref a) σ H Q := ⟨a, xs, rfl, h, hn, k⟩
theorem g_gnil {Q : L2.St → Hp → Prop} (k : Q σ H) : gNil [] σ H Q := ⟨rfl, k⟩
theorem g_gcons {t : TG} {u : TGs} {v : V} {r : List V} {Q : L2.St → Hp → Prop} (k : t v σ H fun σ' H' => u r σ' H' Q) : gCons t u (v :: r) σ H Q := ⟨v, r, rfl, k⟩
end
end RC
namespace RC
open PySem PySem.Spec PyProof.Rows L2
/-- a comprehension, by a word of the turn and the heap -/
theorem lc_X {H : Hp} {σ : L2.St} {Q : VK} {te : TE} {tt : TT} {g : TG} {vs : List Nat} {J : It} {n : Nat} {G : Hp → Prop} {Y : Nat → Hp → V → Hp → Prop} (w : Walk J n G Y) (Pv : Addr → Nat → Hp → Prop) (h0 : ∀ E, H E = none → Pv E 0 (upd H E (.lst [])))
    (hG : ∀ E i H, i ≤ n → Pv E i H → G H)
    (hs : ∀ E i x H H', i < n → Pv E i H → Y i H x H' → g x (wipe σ vs) H' fun σ2 H2 => wipe σ2 vs = wipe σ vs ∧ tt σ2 H2 fun b H3 => if b = true then te σ2 H3 (LcK (Pv E (i + 1)) E) else Pv E (i + 1) H3)
    (hd : ∀ E H, Pv E n H → Q (.ref E) H) : LcW J g tt te vs σ Q H := by
  intro E hE
  exact lc_it w (Pv E) (h0 E hE) (hG E) (hs E) (hd E)
end RC

namespace RC
open PySem PySem.Spec PyProof.Rows L2
local macro_rules | `(tactic| walk_at "S") => `(tactic| assumption)
local macro_rules | `(tactic| walk_at "hp") => `(tactic| first
  | assumption
  | exact M.got (by assumption) 0 rfl | exact M.got (by assumption) 1 rfl | exact M.got (by assumption) 2 rfl | exact M.got (by assumption) 3 rfl | exact M.got (by assumption) 4 rfl
  | exact M.got (by assumption) 5 rfl | exact M.got (by assumption) 6 rfl | exact M.got (by assumption) 7 rfl | exact M.got (by assumption) 8 rfl
  | exact M.gotF (by assumption) 0 rfl | exact M.gotF (by assumption) 1 rfl | exact M.gotF (by assumption) 2 rfl | exact M.gotF (by assumption) 3 rfl | exact M.gotF (by assumption) 4 rfl
  | exact M.gotF (by assumption) 5 rfl | exact M.gotF (by assumption) 6 rfl | exact M.gotF (by assumption) 7 rfl | exact M.gotF (by assumption) 8 rfl)
local macro_rules | `(tactic| walk_at "sl") => `(tactic| first
  | assumption
  | exact SqL.of (by walk_at "hp")
  | exact M.gotR (by assumption) 0 rfl | exact M.gotR (by assumption) 1 rfl | exact M.gotR (by assumption) 2 rfl | exact M.gotR (by assumption) 3 rfl)
local macro_rules | `(tactic| walk_at "mul") => `(tactic| first
  | exact Or.inl (Or.inr ⟨by decide, by decide⟩) | exact Or.inl (Or.inl ⟨by decide, by decide⟩) | exact Or.inl (Or.inr ⟨by omega, by omega⟩) | exact Or.inl (Or.inl ⟨by omega, by omega⟩))
local macro_rules | `(tactic| walk_at "sq") => `(tactic| first | assumption | exact SqT.of (by walk_at "hp"))
local macro_rules | `(tactic| walk_at "sts") => `(tactic| first
  | with_reducible refine g_asg ?_
  | with_reducible refine g_asgX ?_
  | with_reducible refine g_drop ?_
  | with_reducible refine g_ret ?_
  | with_reducible refine g_retN ?_
  | with_reducible refine g_if ?_
  | with_reducible refine g_next ?_
  | with_reducible refine g_bk ?_
  | with_reducible refine g_ct ?_
  | with_reducible refine g_augS ?_
  | with_reducible refine g_for ?_
  | with_reducible refine g_par ?_
  | ((with_reducible refine' g_aug ?hh ?kk); (case hh => exact rfl)))
local macro_rules | `(tactic| walk_at "ev1") => `(tactic| first
  | with_reducible refine g_rt ?_
  | with_reducible refine g_lc ?_
  | with_reducible refine g_iList ?_
  | with_reducible refine g_iRng1 ?_
  | with_reducible refine g_iRev ?_
  | with_reducible refine g_yes ?_
  | ((with_reducible refine' g_wipe ?hh ?kk); (case hh => exact rfl))
  | with_reducible refine g_name ?_
  | ((with_reducible refine' g_var ?hh ?kk); (case hh => exact rfl))
  | with_reducible refine g_c ?_
  | with_reducible refine g_op ?_
  | with_reducible refine g_un ?_
  | with_reducible refine g_nil ?_
  | with_reducible refine g_cons ?_
  | with_reducible refine g_cb ?_
  | with_reducible refine g_call ?_
  | with_reducible refine g_lst ?_
  | with_reducible refine g_tup ?_
  | with_reducible refine g_test ?_
  | with_reducible refine g_B ?_
  | with_reducible refine g_bl ?_
  | with_reducible refine g_int ?_
  | with_reducible refine g_and ?_
  | with_reducible refine g_or ?_
  | with_reducible refine g_not ?_
  | with_reducible refine g_andV ?_
  | with_reducible refine g_orV ?_
  | with_reducible refine g_notV ?_
  | with_reducible refine g_ifE ?_
  | with_reducible refine g_chain ?_
  | with_reducible refine g_sub ?_
  | with_reducible refine g_sl ?_
  | with_reducible refine g_noPart ?_
  | with_reducible refine g_part ?_
  | with_reducible refine g_rev ?_
  | with_reducible refine g_bm ?_
  | with_reducible refine g_bm0 ?_
  | with_reducible refine v_add ?_
  | with_reducible refine v_sub ?_
  | with_reducible refine v_iadd ?_
  | with_reducible refine v_isub ?_
  | with_reducible refine v_lt ?_
  | with_reducible refine v_le ?_
  | with_reducible refine v_gt ?_
  | with_reducible refine v_ge ?_
  | with_reducible refine v_eqI ?_
  | with_reducible refine v_neI ?_
  | with_reducible refine v_eqS ?_
  | with_reducible refine v_eqB ?_
  | with_reducible refine v_neB ?_
  | ((with_reducible refine' v_mod ?hh ?kk); (case hh => first | decide | omega))
  | ((with_reducible refine' v_mul ?hh ?kk); (case hh => walk_at "mul"))
  | ((with_reducible refine' v_imul ?hh ?kk); (case hh => first | exact Or.inr ⟨by decide, by decide⟩ | exact Or.inl ⟨by decide, by decide⟩ | exact Or.inr ⟨by omega, by omega⟩ | exact Or.inl ⟨by omega, by omega⟩))
  | ((with_reducible refine' v_div ?hh ?kk); (case hh => first | decide | exact ⟨by omega, by omega⟩))
  | ((with_reducible refine' v_idiv ?hh ?kk); (case hh => first | exact ⟨by decide, by decide⟩ | exact ⟨by omega, by omega⟩))
  | ((with_reducible refine' v_ixL ?hs ?hh ?kk); (case hs => walk_at "sl"); (case hh => exact rfl))
  | ((with_reducible refine' v_ixT ?hs ?hh ?kk); (case hs => walk_at "sq"); (case hh => exact rfl))
  | ((with_reducible refine' v_get ?hs ?h0 ?hh ?kk); (case hs => walk_at "sl"); (case h0 => decide); (case hh => exact rfl))
  | ((with_reducible refine' v_lenL ?hs ?kk); (case hs => walk_at "sl"))
  | with_reducible refine v_abs ?_
  | with_reducible refine v_neg ?_
  | with_reducible refine v_isN ?_
  | with_reducible refine v_notN ?_
  | with_reducible refine v_two ?_
  | with_reducible refine g_callN ?_
  | ((with_reducible refine' v_lens ?h1 ?h2 ?kk); (case h1 => exact rfl); (case h2 => exact rfl))
  | ((with_reducible refine' g_gtup ?h1 ?h2 ?kk); (case h1 => walk_at "sq"); (case h2 => exact rfl))
  | with_reducible refine g_gcons ?_
  | with_reducible refine g_gnil ?_
  | with_reducible refine v_ifNT ?_
  | with_reducible refine v_ifNF ?_
  | with_reducible refine v_ifT ?_
  | with_reducible refine v_ifF ?_)
local macro_rules | `(tactic| walk_at "ev") => `(tactic| repeat walk_at "ev1")
local macro_rules | `(tactic| walk_at "nx") => `(tactic| repeat with_reducible refine g_nx ?_)
local macro_rules | `(tactic| walk_at "st") => `(tactic| ((repeat first | with_reducible refine g_nx ?_ | with_reducible refine g_seq ?_); walk_at "sts"; walk_at "ev"))
local macro_rules | `(tactic| walk_at "go1") => `(tactic| first | with_reducible refine g_nx ?_ | with_reducible refine g_seq ?_ | walk_at "sts" | walk_at "ev1")
local macro_rules | `(tactic| walk_at "go") => `(tactic| repeat walk_at "go1")
local macro_rules | `(tactic| walk_at "sub1") => `(tactic| first
  | exact Sub.refl _ | exact Sub.nil _
  | refine Sub.cons 0 rfl ?_ | refine Sub.cons 1 rfl ?_ | refine Sub.cons 2 rfl ?_ | refine Sub.cons 3 rfl ?_ | refine Sub.cons 4 rfl ?_ | refine Sub.cons 5 rfl ?_ | refine Sub.cons 6 rfl ?_ | refine Sub.cons 7 rfl ?_
  | refine Sub.cons 8 rfl ?_ | refine Sub.cons 9 rfl ?_ | refine Sub.cons 10 rfl ?_ | refine Sub.cons 11 rfl ?_ | refine Sub.cons 12 rfl ?_ | refine Sub.cons 13 rfl ?_ | refine Sub.cons 14 rfl ?_ | refine Sub.cons 15 rfl ?_ | refine Sub.tl ?_)
local macro_rules | `(tactic| walk_at "sub") => `(tactic| (refine M.sub ?_ (by assumption); repeat walk_at "sub1"))
def top (i : Nat) : Stmt := PySem.Challenge.pw_restorechain_k13_whole_tails_and_heads.main.body.getD i (.Pass ⟨0, 0, 0, 0⟩)
abbrev s_l_bag : Stmt := top 21
abbrev s_l_take : Stmt := top 22
abbrev s_l_content : Stmt := top 25
abbrev s_l_changed : Stmt := top 26
abbrev s_is_whole : Stmt := top 7
abbrev s_is_mark : Stmt := top 16
abbrev s_is_most : Stmt := top 17
abbrev s_need_numbers : Stmt := top 18
abbrev s_is_sign : Stmt := top 8
abbrev s_are_signs : Stmt := top 9
abbrev s_is_content : Stmt := top 10
abbrev s_cut : Stmt := top 19
abbrev s_l_ended : Stmt := top 27
abbrev s_l_alike : Stmt := top 23
abbrev s_l_joined : Stmt := top 28
abbrev s_law : Stmt := top 29
structure Txt (K : PySem.W.Frag) (mg : Str → Option Value) : Prop where
  F_l_bag : FunD K "_law_bag" "_law_bag" (defArgs s_l_bag) (defBody s_l_bag) (defScope s_l_bag) [] [] (He.ga K "_law_bag") (fdOf K (He.ga K "_law_bag"))
  g_l_bag : mg "_law_bag" = some (.ref (He.ga K "_law_bag"))
  F_l_take : FunD K "_law_take" "_law_take" (defArgs s_l_take) (defBody s_l_take) (defScope s_l_take) [] [] (He.ga K "_law_take") (fdOf K (He.ga K "_law_take"))
  g_l_take : mg "_law_take" = some (.ref (He.ga K "_law_take"))
  F_l_content : FunD K "_law_content" "_law_content" (defArgs s_l_content) (defBody s_l_content) (defScope s_l_content) [] [] (He.ga K "_law_content") (fdOf K (He.ga K "_law_content"))
  g_l_content : mg "_law_content" = some (.ref (He.ga K "_law_content"))
  F_l_changed : FunD K "_law_changed" "_law_changed" (defArgs s_l_changed) (defBody s_l_changed) (defScope s_l_changed) [] [] (He.ga K "_law_changed") (fdOf K (He.ga K "_law_changed"))
  g_l_changed : mg "_law_changed" = some (.ref (He.ga K "_law_changed"))
  F_is_whole : FunD K "is_whole" "is_whole" (defArgs s_is_whole) (defBody s_is_whole) (defScope s_is_whole) [] [] (He.ga K "is_whole") (fdOf K (He.ga K "is_whole"))
  g_is_whole : mg "is_whole" = some (.ref (He.ga K "is_whole"))
  F_is_mark : FunD K "is_mark" "is_mark" (defArgs s_is_mark) (defBody s_is_mark) (defScope s_is_mark) [] [] (He.ga K "is_mark") (fdOf K (He.ga K "is_mark"))
  g_is_mark : mg "is_mark" = some (.ref (He.ga K "is_mark"))
  F_is_most : FunD K "is_most" "is_most" (defArgs s_is_most) (defBody s_is_most) (defScope s_is_most) [] [] (He.ga K "is_most") (fdOf K (He.ga K "is_most"))
  g_is_most : mg "is_most" = some (.ref (He.ga K "is_most"))
  F_need_numbers : FunD K "need_numbers" "need_numbers" (defArgs s_need_numbers) (defBody s_need_numbers) (defScope s_need_numbers) [] [] (He.ga K "need_numbers") (fdOf K (He.ga K "need_numbers"))
  g_need_numbers : mg "need_numbers" = some (.ref (He.ga K "need_numbers"))
  F_is_sign : FunD K "is_sign" "is_sign" (defArgs s_is_sign) (defBody s_is_sign) (defScope s_is_sign) [] [] (He.ga K "is_sign") (fdOf K (He.ga K "is_sign"))
  g_is_sign : mg "is_sign" = some (.ref (He.ga K "is_sign"))
  F_are_signs : FunD K "are_signs" "are_signs" (defArgs s_are_signs) (defBody s_are_signs) (defScope s_are_signs) [] [] (He.ga K "are_signs") (fdOf K (He.ga K "are_signs"))
  g_are_signs : mg "are_signs" = some (.ref (He.ga K "are_signs"))
  F_is_content : FunD K "is_content" "is_content" (defArgs s_is_content) (defBody s_is_content) (defScope s_is_content) [] [] (He.ga K "is_content") (fdOf K (He.ga K "is_content"))
  g_is_content : mg "is_content" = some (.ref (He.ga K "is_content"))
  F_cut : FunD K "cut" "cut" (defArgs s_cut) (defBody s_cut) (defScope s_cut) [] [("mark", .int 7), ("most", .int 8)] (He.ga K "cut") (fdOf K (He.ga K "cut"))
  g_cut : mg "cut" = some (.ref (He.ga K "cut"))
  F_l_ended : FunD K "_law_ended" "_law_ended" (defArgs s_l_ended) (defBody s_l_ended) (defScope s_l_ended) [] [] (He.ga K "_law_ended") (fdOf K (He.ga K "_law_ended"))
  g_l_ended : mg "_law_ended" = some (.ref (He.ga K "_law_ended"))
  F_l_alike : FunD K "_law_alike" "_law_alike" (defArgs s_l_alike) (defBody s_l_alike) (defScope s_l_alike) [] [] (He.ga K "_law_alike") (fdOf K (He.ga K "_law_alike"))
  g_l_alike : mg "_law_alike" = some (.ref (He.ga K "_law_alike"))
  F_l_joined : FunD K "_law_joined" "_law_joined" (defArgs s_l_joined) (defBody s_l_joined) (defScope s_l_joined) [] [] (He.ga K "_law_joined") (fdOf K (He.ga K "_law_joined"))
  g_l_joined : mg "_law_joined" = some (.ref (He.ga K "_law_joined"))
  F_law : FunD K "law" "law" (defArgs s_law) (defBody s_law) (defScope s_law) [] [] (He.ga K "law") (fdOf K (He.ga K "law"))
  g_law : mg "law" = some (.ref (He.ga K "law"))
  c_LEAST_MARK : ∃ t, mg "LEAST_MARK" = some (.int 2 t)
  c_MOST_MARK : ∃ t, mg "MOST_MARK" = some (.int 50 t)
  c_MOST_PIECE : ∃ t, mg "MOST_PIECE" = some (.int 16 t)
  c_MOST_SIGN : ∃ t, mg "MOST_SIGN" = some (.int 999 t)
  c_MOST_CONTENT : ∃ t, mg "MOST_CONTENT" = some (.int 48 t)
  c_MARK : ∃ t, mg "MARK" = some (.int 7 t)
  c_MOST : ∃ t, mg "MOST" = some (.int 8 t)
  b_abs : mg "abs" = none
  b_len : mg "len" = none
  b_range : mg "range" = none
  b_isinstance : mg "isinstance" = none
  b_int : mg "int" = none
  b_bool : mg "bool" = none
  b_list : mg "list" = none
  b_repr : mg "repr" = none
abbrev bagO (x y z : Int) (cl : Addr) : HO := .lst [.int x, .int y, .int z, .ref cl]
structure BagOk (x y z : Int) (ns : List Int) : Prop where
  x0 : 0 ≤ x
  y0 : 0 ≤ y
  y1 : y < 2147483647
  z0 : 0 ≤ z
  nn : ∀ n ∈ ns, (0 : Int) ≤ n
def bagR (bag : Addr) : Res := exi fun (b : Int × Int × Int × Addr × List Int) => prp (BagOk b.1 b.2.1 b.2.2.1 b.2.2.2.2) (sp2 (pt bag (bagO b.1 b.2.1 b.2.2.1 b.2.2.2.1)) (pt b.2.2.2.1 (.lst (b.2.2.2.2.map V.int))))
theorem bag_open {bag : Addr} {Rs : List Res} {H : Hp} (S : M (bagR bag :: Rs) H) : ∃ x y z cl ns, BagOk x y z ns ∧ M (pt bag (bagO x y z cl) :: pt cl (.lst (ns.map V.int)) :: Rs) H := by
  obtain ⟨⟨x, y, z, cl, ns⟩, S⟩ := S.ex
  obtain ⟨ok, S⟩ := S.pr
  exact ⟨x, y, z, cl, ns, ok, S.sp⟩
theorem bag_close {bag cl : Addr} {x y z : Int} {ns : List Int} {Rs : List Res} {H : Hp} (ok : BagOk x y z ns) (S : M (pt bag (bagO x y z cl) :: pt cl (.lst (ns.map V.int)) :: Rs) H) : M (bagR bag :: Rs) H :=
  M.ex' (T := fun (b : Int × Int × Int × Addr × List Int) => prp (BagOk b.1 b.2.1 b.2.2.1 b.2.2.2.2) (sp2 (pt bag (bagO b.1 b.2.1 b.2.2.1 b.2.2.2.1)) (pt b.2.2.2.1 (.lst (b.2.2.2.2.map V.int))))) (x, y, z, cl, ns) (M.pr' ok S.sp')
def sp_l_take (K : PySem.W.Frag) : Sp := fun vs H Q _ => ∃ (Rs : List Res) (bag : Addr) (many : Int), vs = [.ref bag, .int many] ∧ M (bagR bag :: Rs) H ∧ 0 < many ∧ many < 2 ^ 62 ∧
  ∀ v H', 0 ≤ v → v < many → M (bagR bag :: Rs) H' → Q (.int v) H'
abbrev t_l_take_6 (K : PySem.W.Frag) : TS := (tSeq (tIfS (tTest (tOp uGe (tVar 4) (tC (.int 1000000000000000000)))) (tAsg (tVar 4) (gSub (tVar 0) (tC (.int 0)) uSet)) tNext)
  (tAsg (tOp uMod (tOp (uAdd K) (tOp (uAdd K) (tOp uMul (tOp (uIx K) (tVar 0) (tC (.int 1))) (tC (.int 48271))) (tOp uMod (tVar 4) (tC (.int 2147483647)))) (tOp uMul (tC (.int 7919)) (tOp (uIx K) (tVar 0) (tC (.int 2))))) (tC (.int 2147483647))) (gSub (tVar 0) (tC (.int 1)) uSet)))
abbrev t_l_take_5 (K : PySem.W.Frag) : TS := (tSeq (tAugS (tVar 0) (tC (.int 2)) (tC (.int 1)) (gIx K) iAdd uSet)
  (t_l_take_6 K))
abbrev t_l_take_3 (K : PySem.W.Frag) : TS := (tSeq (tIfS (tTest (tOp uLt (tOp (uIx K) (tVar 0) (tC (.int 2))) (tCB (uLen K) (tCons (tOp (uIx K) (tVar 0) (tC (.int 3))) tNil)))) (tAsg (tOp (uIx K) (tOp (uIx K) (tVar 0) (tC (.int 3))) (tOp (uIx K) (tVar 0) (tC (.int 2)))) (gName 4)) tNext)
  (t_l_take_5 K))
abbrev t_l_take_2 (K : PySem.W.Frag) : TS := (tSeq (tAsg (tC (.int 0)) (gName 4))
  (t_l_take_3 K))
abbrev t_l_take_11 (K : PySem.W.Frag) : TS := (tSeq (tAsg (tOp uDiv (tOp (uIx K) (tVar 0) (tC (.int 0))) (tVar 1)) (gSub (tVar 0) (tC (.int 0)) uSet))
  (tRet (tVar 5)))
abbrev t_l_take_10 (K : PySem.W.Frag) : TS := (tSeq (tAsg (tOp uMod (tOp (uIx K) (tVar 0) (tC (.int 0))) (tVar 1)) (gName 5))
  (t_l_take_11 K))
abbrev t_l_take_15 (K : PySem.W.Frag) : TS := (tSeq (tIfS (tTest (tOp uGt (tVar 1) (tC (.int 1000000)))) (tRet (tOp uMod (tOp (uAdd K) (tOp uMul (tVar 3) (tC (.int 1000000007))) (tVar 2)) (tVar 1))) tNext)
  (tRet (tOp uMod (tOp uDiv (tVar 3) (tC (.int 7))) (tVar 1))))
abbrev t_l_take_14 (K : PySem.W.Frag) : TS := (tSeq (tAsg (tOp uMod (tOp uMul (tOp uMod (tOp uMul (tVar 2) (tVar 2)) (tC (.int 998244353))) (tC (.int 30011))) (tC (.int 998244353))) (gName 3))
  (t_l_take_15 K))
abbrev t_l_take_13 (K : PySem.W.Frag) : TS := (tSeq (tAsg (tOp uMod (tOp uMul (tOp (uAdd K) (tOp (uIx K) (tVar 0) (tC (.int 1))) (tC (.int 1))) (tC (.int 39373))) (tC (.int 1000000007))) (gName 2))
  (t_l_take_14 K))
abbrev t_l_take_9 (K : PySem.W.Frag) : TS := (tSeq (tIfS (tTest (tOp uGt (tOp (uIx K) (tVar 0) (tC (.int 0))) (tC (.int 0)))) (t_l_take_10 K) tNext)
  (t_l_take_13 K))
abbrev t_l_take_1 (K : PySem.W.Frag) : TS := (tSeq (tIfS (tTest (tOp (uEq K) (tOp (uIx K) (tVar 0) (tC (.int 0))) (tC (.int 0)))) (t_l_take_2 K) tNext)
  (t_l_take_9 K))
abbrev t_l_take (K : PySem.W.Frag) : TS := (t_l_take_1 K)
theorem take_tail {K : PySem.W.Frag} {Q : VK} {Rs : List Res} {bag cl : Addr} {many x y z : Int} {ns : List Int} {c : Option V} {H : Hp} (m0 : 0 < many) (m1 : many < 2 ^ 62) (ok : BagOk x y z ns)
    (k : ∀ v H', 0 ≤ v → v < many → M (bagR bag :: Rs) H' → Q (.int v) H') (S : M (pt bag (bagO x y z cl) :: pt cl (.lst (ns.map V.int)) :: Rs) H) :
    t_l_take_9 K { nx := fun _ H' => Q .non H', rt := Q } [some (V.ref bag), some (V.int many), none, none, c, none] H := by
  have x0 := ok.x0
  have y0 := ok.y0
  have y1 := ok.y1
  walk_at "go"
  refine v_ifD (fun h => ?_) (fun h => ?_)
  · walk_at "go"
    refine v_set S 0 rfl rfl fun H' S' => ?_
    have S2 : M (pt bag (bagO (x / many) y z cl) :: pt cl (.lst (ns.map V.int)) :: Rs) H' := S'
    walk_at "go"
    exact k _ _ (Int.emod_nonneg _ (by omega)) (Int.emod_lt_of_pos _ m0) (bag_close ⟨Int.ediv_nonneg x0 (Int.le_of_lt m0), y0, y1, ok.z0, ok.nn⟩ S2)
  · walk_at "go"
    have f0 := Int.emod_nonneg ((y + 1) * 39373) (show (1000000007 : Int) ≠ 0 by decide)
    have f1 := Int.emod_lt_of_pos ((y + 1) * 39373) (show (0 : Int) < 1000000007 by decide)
    walk_at "go"
    have g0 := Int.emod_nonneg ((y + 1) * 39373 % 1000000007 * ((y + 1) * 39373 % 1000000007) % 998244353 * 30011) (show (998244353 : Int) ≠ 0 by decide)
    have g1 := Int.emod_lt_of_pos ((y + 1) * 39373 % 1000000007 * ((y + 1) * 39373 % 1000000007) % 998244353 * 30011) (show (0 : Int) < 998244353 by decide)
    refine v_ifD (fun h => ?_) (fun h => ?_)
    · walk_at "go"
      exact k _ _ (Int.emod_nonneg _ (by omega)) (Int.emod_lt_of_pos _ m0) (bag_close ok S)
    · walk_at "go"
      exact k _ _ (Int.emod_nonneg _ (by omega)) (Int.emod_lt_of_pos _ m0) (bag_close ok S)
theorem take_mid {K : PySem.W.Frag} {Q : VK} {Rs : List Res} {bag cl : Addr} {many y z c : Int} {ns : List Int} {H : Hp} (m0 : 0 < many) (m1 : many < 2 ^ 62) (ok : BagOk 0 y z ns) (c0 : 0 ≤ c)
    (k : ∀ v H', 0 ≤ v → v < many → M (bagR bag :: Rs) H' → Q (.int v) H') (S : M (pt bag (bagO 0 y z cl) :: pt cl (.lst (ns.map V.int)) :: Rs) H) :
    t_l_take_5 K { nx := t_l_take_9 K { nx := fun _ H' => Q .non H', rt := Q }, rt := Q } [some (V.ref bag), some (V.int many), none, none, some (.int c), none] H := by
  have y0 := ok.y0
  have y1 := ok.y1
  have z0 := ok.z0
  have fin : ∀ {x : Int} {H' : Hp}, 0 ≤ x → M (pt bag (bagO x y (z + 1) cl) :: pt cl (.lst (ns.map V.int)) :: Rs) H' →
      tAsg (tOp uMod (tOp (uAdd K) (tOp (uAdd K) (tOp uMul (tOp (uIx K) (tVar 0) (tC (.int 1))) (tC (.int 48271))) (tOp uMod (tVar 4) (tC (.int 2147483647)))) (tOp uMul (tC (.int 7919)) (tOp (uIx K) (tVar 0) (tC (.int 2))))) (tC (.int 2147483647))) (gSub (tVar 0) (tC (.int 1)) uSet)
        { nx := t_l_take_9 K { nx := fun _ H' => Q .non H', rt := Q }, rt := Q } [some (V.ref bag), some (V.int many), none, none, some (.int c), none] H' := by
    intro x H' x0 S
    walk_at "go"
    refine v_set S 0 rfl rfl fun H2 S' => ?_
    have S2 : M (pt bag (bagO x ((y * 48271 + c % 2147483647 + 7919 * (z + 1)) % 2147483647) (z + 1) cl) :: pt cl (.lst (ns.map V.int)) :: Rs) H2 := S'
    walk_at "nx"
    exact take_tail m0 m1 ⟨x0, Int.emod_nonneg _ (by decide), Int.emod_lt_of_pos _ (by decide), by omega, ok.nn⟩ k S2
  walk_at "go"
  refine v_set S 0 rfl rfl fun H' S' => ?_
  have S2 : M (pt bag (bagO 0 y (z + 1) cl) :: pt cl (.lst (ns.map V.int)) :: Rs) H' := S'
  walk_at "go"
  refine v_ifD (fun h => ?_) (fun h => ?_)
  · walk_at "go"
    refine v_set S2 0 rfl rfl fun H2 S' => ?_
    have S3 : M (pt bag (bagO c y (z + 1) cl) :: pt cl (.lst (ns.map V.int)) :: Rs) H2 := S'
    exact fin c0 S3
  · walk_at "st"
    exact fin (Int.le_refl 0) S2
theorem len_l_take {K : PySem.W.Frag} (vs : List V) (H : Hp) (Q : VK) (E : XK) (h : sp_l_take K vs H Q E) : vs.length = 2 := by
  obtain ⟨Rs, bag, many, rfl, _⟩ := h
  rfl
theorem pure_l_take {K : PySem.W.Frag} (vs : List V) (H : Hp) (Q : VK) (E : XK) (h : sp_l_take K vs H Q E) : t_l_take K { nx := fun _ H' => Q .non H', rt := Q } (start ["_law_bag_here", "_law_many", "_law_first", "_law_second", "_law_cell", "_law_value"] vs) H := by
  obtain ⟨Rs, bag, many, rfl, S, m0, m1, k⟩ := h
  obtain ⟨x, y, z, cl, ns, ok, S⟩ := bag_open S
  show t_l_take K _ [some (V.ref bag), some (V.int many), none, none, none, none] H
  walk_at "go"
  refine v_ifD (fun h => ?_) (fun h => ?_)
  · subst h
    walk_at "go"
    refine v_ifD (fun h => ?_) (fun h => ?_)
    · rw [List.length_map] at h
      walk_at "go"
      refine v_ixL (SqL.of (S.got 1 rfl)) (atI_ints ok.z0 h) ?_
      walk_at "nx"
      refine take_mid m0 m1 ok ?_ k S
      rw [List.getD_eq_getElem?_getD]
      cases e : ns[z.toNat]? with
      | none => exact Int.le_refl 0
      | some n => exact ok.nn n (List.mem_of_getElem? e)
    · walk_at "st"
      exact take_mid m0 m1 ok (Int.le_refl 0) k S
  · walk_at "st"
    exact take_tail m0 m1 ok k S
def sp_l_bag (K : PySem.W.Frag) : Sp := fun vs H Q _ => ∃ (Rs : List Res) (a : Addr) (ns : List Int), vs = [.ref a] ∧ M Rs H ∧ Ent Rs (fun H => SqL K H a (ns.map V.int)) ∧ ns.length ≤ 63 ∧ ∀ bag H', M (bagR bag :: Rs) H' → Q (.ref bag) H'
theorem len_l_bag {K : PySem.W.Frag} (vs : List V) (H : Hp) (Q : VK) (E : XK) (h : sp_l_bag K vs H Q E) : vs.length = 1 := by
  obtain ⟨Rs, a, ns, rfl, _⟩ := h
  rfl
abbrev t_l_bag (K : PySem.W.Frag) : TS := (tRet (tLst (tCons (tC (.int 0)) (tCons (tC (.int 1234567891)) (tCons (tC (.int 0)) (tCons (tLc (iList K (tSl (uSl K) (tVar 0) tNoPart (tPart (tC (.int 63))))) (gName 1) tYes (tCB rAbs (tCons (tVar 1) tNil)) [1]) tNil))))))
theorem pure_l_bag {K : PySem.W.Frag} (vs : List V) (H : Hp) (Q : VK) (E : XK) (h : sp_l_bag K vs H Q E) : t_l_bag K { nx := fun _ H' => Q .non H', rt := Q } (start ["_law_script", "_law_cell"] vs) H := by
  obtain ⟨Rs, a, ns, rfl, S, hS, hl, k⟩ := h
  show t_l_bag K _ [some (V.ref a), none] H
  walk_at "go"
  refine v_slL S (hS H S) fun q H1 S1 => ?_
  rw [show cutV (ns.map V.int) none (some 63) = (ns.map V.int).take 63 from cut_to _ 63, ← List.map_take] at S1
  refine v_itL (SqL.of (S1.got 0 rfl)) ?_
  refine lc_W walk_list S1 (fun i acc => ∃ ms : List Int, acc = ms.map V.int ∧ ms.length ≤ i ∧ ∀ n ∈ ms, 0 ≤ n) ⟨[], rfl, Nat.le_refl _, (fun _ h => nomatch h)⟩ (fun H S => SqL.of (S.got 0 rfl)) ?_ ?_
  · intro i x acc E H H' hi hp S y
    obtain ⟨rfl, hx⟩ := y
    obtain ⟨n, _, rfl⟩ := ints_get hx
    obtain ⟨ms, rfl, hm, hn⟩ := hp
    walk_at "go"
    have hz : i < 63 := by
      rw [List.length_map, List.length_take] at hi
      omega
    refine lc_next S 0 rfl (by rw [List.length_map]; omega) fun H' S' => ?_
    refine ⟨_, ⟨ms ++ [if n < 0 then -n else n], by simp, by simp; omega, fun m h => ?_⟩, S'⟩
    rcases List.mem_append.mp h with h | h
    · exact hn m h
    · cases List.mem_singleton.mp h
      split <;> omega
  · rintro E acc H ⟨ms, rfl, _, hn⟩ S
    walk_at "go"
    refine v_lst S (by simp) fun p H' S' => ?_
    walk_at "go"
    have S2 : M (pt p (bagO 0 1234567891 0 E) :: pt E (.lst (ms.map V.int)) :: Rs) H' := (S'.at 2 rfl).tl
    exact k p H' (bag_close ⟨by decide, by decide, by decide, by decide, hn⟩ S2)
/-! ### data -/
structure Shw (d : PyData) : Prop where
  sh : d.showable = true
  cl : d.canLay0 = true
  dp : d.depth ≤ 60
  sz : d.shown.length ≤ sizeLine
theorem Shw.shaped {d : PyData} (h : Shw d) : SeqAt.shaped d = true := by
  unfold SeqAt.shaped
  rw [h.cl, decide_eq_true (Nat.le_trans h.dp (by decide))]
  rfl
theorem log_lt {n : Int} (h : n.natAbs < 2 ^ 1000) : n.natAbs.log2 < 1920 := by
  rcases Nat.eq_zero_or_pos n.natAbs with e | e
  · rw [e]
    decide
  · have h2 := (Nat.log2_lt (by omega)).mpr h
    omega
theorem Shw.int {n : Int} (h : n.natAbs < 2 ^ 1000) : Shw (.int n) := by
  have l := log_lt h
  refine ⟨by simpa [PyData.showable] using l, rfl, by simp [PyData.depth], ?_⟩
  simp only [PyData.shown]
  exact int_text_fits l
theorem dpAll_ints {K : PySem.W.Frag} {H : Hp} : ∀ ns : List Int, DpAll K H (ns.map V.int) (ns.map PyData.int)
  | [] => .nil
  | n :: r => .cons (.int n) (dpAll_ints r)
theorem dp_ints {K : PySem.W.Frag} {H : Hp} {a : Addr} {ns : List Int} (h : SqL K H a (ns.map V.int)) : Dp K H (.ref a) (.list (ns.map PyData.int)) := .lst h (dpAll_ints ns)
theorem canLayAll_ints : ∀ ns : List Int, PyData.canLayAll0 (ns.map PyData.int) = true
  | [] => by simp [PyData.canLayAll0]
  | n :: r => by simp [PyData.canLayAll0, PyData.canLay0, canLayAll_ints r]
theorem depthAll_ints : ∀ ns : List Int, PyData.depthAll (ns.map PyData.int) ≤ 1
  | [] => by simp [PyData.depthAll]
  | n :: r => by
    have := depthAll_ints r
    simp [PyData.depthAll, PyData.depth]
    omega
theorem shaped_ints (ns : List Int) : SeqAt.shaped (.list (ns.map PyData.int)) = true := by
  unfold SeqAt.shaped
  have := depthAll_ints ns
  simp [PyData.canLay0, canLayAll_ints, PyData.depth]
  omega
theorem eqvAll_ints : ∀ ns ms : List Int, PyData.eqvAll (ns.map PyData.int) (ms.map PyData.int) = decide (ns = ms)
  | [], [] => rfl
  | [], _ :: _ => rfl
  | _ :: _, [] => rfl
  | n :: r, m :: t => by
    show (PyData.eqv (.int n) (.int m) && PyData.eqvAll (r.map PyData.int) (t.map PyData.int)) = _
    rw [eqvAll_ints r t]
    by_cases h : n = m
    · subst h
      simp [PyData.eqv]
    · have : ¬ (n :: r = m :: t) := fun z => h (List.cons.inj z).1
      simp [PyData.eqv, h]
theorem eqv_ints (ns ms : List Int) : PyData.eqv (.list (ns.map PyData.int)) (.list (ms.map PyData.int)) = decide (ns = ms) := eqvAll_ints ns ms
/-- a list of so many signs -/
structure Signs (lo hi : Nat) (ns : List Int) : Prop where
  lo : lo ≤ ns.length
  hi : ns.length ≤ hi
  sg : ∀ n ∈ ns, 0 ≤ n ∧ n ≤ 999
/-- a draw -/
theorem u_take {K : PySem.W.Frag} {Rs : List Res} {H : Hp} {bag : Addr} {many : Int} {Q : VK} {E : XK} (S : M (bagR bag :: Rs) H) (h : 0 < many ∧ many < 2 ^ 62) (k : ∀ v H', 0 ≤ v → v < many → M (bagR bag :: Rs) H' → Q (.int v) H') :
    sp_l_take K ([.ref bag, .int many] ++ []) H Q E := ⟨Rs, bag, many, rfl, S, h.1, h.2, k⟩
def sp_l_signs (K : PySem.W.Frag) : Sp := fun vs H Q _ => ∃ (Rs : List Res) (bag : Addr), vs = [.ref bag] ∧ M (bagR bag :: Rs) H ∧
  ∀ p ns H', Signs 1 16 ns → M (bagR bag :: pt p (.lst (ns.map V.int)) :: Rs) H' → Q (.ref p) H'
def sp_l_alike (K : PySem.W.Frag) : Sp := fun vs H Q _ => ∃ (x y : V) (d : PyData), vs = [x, y] ∧ Dp K H x d ∧ Dp K H y d ∧ Shw d ∧ Q (.bl true) H
theorem len_l_alike {K : PySem.W.Frag} (vs : List V) (H : Hp) (Q : VK) (E : XK) (h : sp_l_alike K vs H Q E) : vs.length = 2 := by
  obtain ⟨x, y, d, rfl, _⟩ := h
  rfl
theorem u_alike {K : PySem.W.Frag} {H : Hp} {x y : V} {d : PyData} {Q : VK} {E : XK} (h1 : Dp K H x d) (h2 : Dp K H y d) (sw : Shw d) (k : Q (.bl true) H) : sp_l_alike K ([x, y] ++ []) H Q E := ⟨x, y, d, rfl, h1, h2, sw, k⟩
abbrev t_l_alike (K : PySem.W.Frag) : TS := (tRet (tAndV (tOp (uEq K) (tVar 0) (tVar 1)) (tOp (uEq K) (tCB (rRepr K) (tCons (tVar 0) tNil)) (tCB (rRepr K) (tCons (tVar 1) tNil)))))
theorem pure_l_alike {K : PySem.W.Frag} (vs : List V) (H : Hp) (Q : VK) (E : XK) (h : sp_l_alike K vs H Q E) : t_l_alike K { nx := fun _ H' => Q .non H', rt := Q } (start ["_law_found", "_law_due"] vs) H := by
  obtain ⟨x, y, d, rfl, h1, h2, sw, k⟩ := h
  show t_l_alike K _ [some x, some y] H
  walk_at "go"
  refine v_eqD h1 h2 sw.shaped sw.shaped ?_
  rw [SeqAt.eqv_refl d sw.cl]
  walk_at "go"
  refine ⟨x, d, rfl, h1, sw.sh, sw.cl, sw.dp, sw.sz, ?_⟩
  walk_at "go"
  refine ⟨y, d, rfl, h2, sw.sh, sw.cl, sw.dp, sw.sz, ?_⟩
  walk_at "go"
  rw [decide_eq_true rfl]
  exact k
/-! ### lists that stand for ever, owned lists -/
def fzs (ls : List (Addr × List Int)) : Res := ⟨fun F l => l = [] ∧ ∀ q ∈ ls, F q.1 = some (.lst (q.2.map V.int)), fun _ _ _ e h => ⟨h.1, fun q hq => e _ _ (h.2 q hq)⟩⟩
theorem M.fzs0 {Rs : List Res} {H : Hp} (h : M Rs H) : M (fzs [] :: Rs) H := by
  obtain ⟨F, L, a, m⟩ := h
  exact ⟨F, L, ⟨[], L, rfl, ⟨rfl, (fun _ h => nomatch h)⟩, a⟩, m⟩
theorem M.fzs1 {Rs : List Res} {H : Hp} {p : Addr} {ns : List Int} {ls : List (Addr × List Int)} (h : M (pt p (.lst (ns.map V.int)) :: fzs ls :: Rs) H) : M (fzs (ls ++ [(p, ns)]) :: Rs) H := by
  obtain ⟨F, L, ⟨l1, l2, rfl, ⟨rfl, e⟩, l3, l4, rfl, ⟨rfl, f⟩, b⟩, m⟩ := h.fix
  refine ⟨F, l4, ⟨[], l4, rfl, ⟨rfl, fun q hq => ?_⟩, b⟩, m⟩
  rcases List.mem_append.mp hq with hq | hq
  · exact f q hq
  · cases List.mem_singleton.mp hq
    exact e
theorem M.gotS {Rs : List Res} {H : Hp} {ls : List (Addr × List Int)} (h : M Rs H) (i : Nat) (e : Rs[i]? = some (fzs ls)) {q : Addr × List Int} (hq : q ∈ ls) : H q.1 = some (.lst (q.2.map V.int)) := by
  obtain ⟨F, L, ⟨l1, l2, rfl, ⟨_, f⟩, b⟩, m⟩ := h.at i e
  exact m.ex _ _ (f q hq)
def rfs (ls : List (Addr × List Int)) : List V := ls.map fun q => V.ref q.1
theorem rfs_len (ls : List (Addr × List Int)) : (rfs ls).length = ls.length := by simp [rfs]
theorem rfs_snoc (ls : List (Addr × List Int)) (p : Addr) (ns : List Int) : rfs (ls ++ [(p, ns)]) = rfs ls ++ [V.ref p] := by simp [rfs]
theorem rfs_get {ls : List (Addr × List Int)} {i : Nat} {x : V} (h : (rfs ls)[i]? = some x) : ∃ q, ls[i]? = some q ∧ x = .ref q.1 := by
  unfold rfs at h
  rw [List.getElem?_map] at h
  cases e : ls[i]? with
  | none =>
    rw [e] at h
    cases h
  | some q =>
    rw [e] at h
    exact ⟨q, rfl, (Option.some.inj h).symm⟩
theorem atI_rfs {ls : List (Addr × List Int)} {i : Int} (h0 : 0 ≤ i) (h1 : i < ls.length) : ∃ q, ls[i.toNat]? = some q ∧ q ∈ ls ∧ atI (rfs ls) i = some (.ref q.1) := by
  have hl : i.toNat < ls.length := by omega
  refine ⟨ls[i.toNat], List.getElem?_eq_getElem hl, List.getElem_mem hl, atI_int h0 ?_⟩
  unfold rfs
  rw [List.getElem?_map, List.getElem?_eq_getElem hl]
  rfl
/-- owned lists of ints -/
def cls (ls : List (Addr × List Int)) : List Cell := ls.map fun q => (q.1, HO.lst (q.2.map V.int))
def pts (ls : List (Addr × List Int)) : Res := ⟨fun _ l => l = cls ls, fun _ _ _ _ h => h⟩
theorem M.pts0 {Rs : List Res} {H : Hp} (h : M Rs H) : M (pts [] :: Rs) H := by
  obtain ⟨F, L, a, m⟩ := h
  exact ⟨F, L, ⟨[], L, rfl, rfl, a⟩, m⟩
/-- one of them by itself -/
theorem M.ptsO {Rs : List Res} {H : Hp} {p : Addr} {ns : List Int} {l1 l2 : List (Addr × List Int)} (h : M (pts (l1 ++ (p, ns) :: l2) :: Rs) H) : M (pt p (.lst (ns.map V.int)) :: pts (l1 ++ l2) :: Rs) H := by
  obtain ⟨F, L, ⟨a1, a2, rfl, rfl, b⟩, m⟩ := h
  have e : (cls (l1 ++ (p, ns) :: l2)).Perm ((p, HO.lst (ns.map V.int)) :: cls (l1 ++ l2)) := by
    unfold cls
    rw [List.map_append, List.map_cons, List.map_append]
    exact List.perm_middle
  exact ⟨F, _, ⟨[(p, .lst (ns.map V.int))], cls (l1 ++ l2) ++ a2, rfl, rfl, cls (l1 ++ l2), a2, rfl, rfl, b⟩, m.perm (e.append_right a2)⟩
theorem M.ptsC {Rs : List Res} {H : Hp} {p : Addr} {ns : List Int} {l1 l2 : List (Addr × List Int)} (h : M (pt p (.lst (ns.map V.int)) :: pts (l1 ++ l2) :: Rs) H) : M (pts (l1 ++ (p, ns) :: l2) :: Rs) H := by
  obtain ⟨F, L, ⟨a1, a2, rfl, rfl, a3, a4, rfl, rfl, b⟩, m⟩ := h
  have e : (cls (l1 ++ (p, ns) :: l2)).Perm ((p, HO.lst (ns.map V.int)) :: cls (l1 ++ l2)) := by
    unfold cls
    rw [List.map_append, List.map_cons, List.map_append]
    exact List.perm_middle
  exact ⟨F, _, ⟨cls (l1 ++ (p, ns) :: l2), a4, rfl, rfl, b⟩, m.perm (e.append_right a4).symm⟩
theorem M.ptsS {Rs : List Res} {H : Hp} {p : Addr} {ns : List Int} {ls : List (Addr × List Int)} (h : M (pt p (.lst (ns.map V.int)) :: pts ls :: Rs) H) : M (pts (ls ++ [(p, ns)]) :: Rs) H :=
  M.ptsC (l1 := ls) (l2 := []) (by rw [List.append_nil]; exact h)
theorem M.ptsL {Rs : List Res} {H : Hp} {p : Addr} {ns : List Int} {ls : List (Addr × List Int)} (h : M (pts (ls ++ [(p, ns)]) :: Rs) H) : M (pt p (.lst (ns.map V.int)) :: pts ls :: Rs) H := by
  have z := M.ptsO (l1 := ls) (l2 := []) h
  rw [List.append_nil] at z
  exact z
theorem M.gotP {Rs : List Res} {H : Hp} {ls : List (Addr × List Int)} (h : M Rs H) (i : Nat) (e : Rs[i]? = some (pts ls)) {q : Addr × List Int} (hq : q ∈ ls) : H q.1 = some (.lst (q.2.map V.int)) := by
  obtain ⟨F, L, ⟨l1, l2, rfl, rfl, b⟩, m⟩ := h.at i e
  exact (m.own (q.1, .lst (q.2.map V.int)) (List.mem_append_left _ (List.mem_map.mpr ⟨q, hq, rfl⟩))).1
theorem M.ptsF {Rs : List Res} {H : Hp} : ∀ {ls : List (Addr × List Int)} {fs : List (Addr × List Int)}, M (pts ls :: fzs fs :: Rs) H → M (fzs (fs ++ ls) :: Rs) H
  | [], fs, h => by
    rw [List.append_nil]
    exact h.tl
  | (p, ns) :: ls, fs, h => by
    have z := M.ptsO (l1 := []) (l2 := ls) h
    have z2 : M (pt p (.lst (ns.map V.int)) :: fzs fs :: pts ls :: Rs) H := z.perm (.cons _ (.swap _ _ _))
    have z3 : M (pts ls :: fzs (fs ++ [(p, ns)]) :: Rs) H := z2.fzs1.perm (.swap _ _ _)
    have z4 := M.ptsF z3
    rw [List.append_assoc] at z4
    exact z4
/-- data of small size -/
structure Sh (dp bk : Nat) (d : PyData) : Prop where
  sh : d.showable = true
  cl : d.canLay0 = true
  lf : d.leavesShort 400 = true
  dp : d.depth ≤ dp
  bk : d.bulk ≤ bk
theorem Sh.shw {dp bk : Nat} {d : PyData} (h : Sh dp bk d) (h1 : dp ≤ 60) (h2 : bk ≤ 40000) : Shw d := by
  refine ⟨h.sh, h.cl, Nat.le_trans h.dp h1, ?_⟩
  have z := PyData.shown_le_bulk 400 (by decide) d h.lf
  have b := h.bk
  rw [sizeLine_eq]
  omega
theorem Sh.int {n : Int} (h : n.natAbs < 2 ^ 1000) : Sh 0 0 (.int n) := by
  have l := log_lt h
  refine ⟨by simpa [PyData.showable] using l, rfl, ?_, by simp [PyData.depth], by simp [PyData.bulk]⟩
  have q : (2 : Nat) ^ 1000 < 10 ^ 310 := by decide +kernel
  have z : (PySem.Str.ofString (toString n)).length ≤ 311 := by
    have := int_text_length_le10 (a := n) (k := 310) (by decide) (by omega)
    rw [PySem.ofString_length]
    exact this
  simp only [PyData.leavesShort, PyData.shown]
  exact decide_eq_true (Nat.le_trans z (show 311 ≤ 400 by decide))
theorem Sh.none : Sh 0 0 .none := ⟨rfl, rfl, rfl, by simp [PyData.depth], by simp [PyData.bulk]⟩
theorem Sh.bool (b : Bool) : Sh 0 0 (.bool b) := ⟨rfl, rfl, rfl, by simp [PyData.depth], by simp [PyData.bulk]⟩
theorem Sh.all {dp bk : Nat} : ∀ {ds : List PyData}, (∀ d ∈ ds, Sh dp bk d) → PyData.showableAll ds = true ∧ PyData.canLayAll0 ds = true ∧ PyData.leavesShortAll 400 ds = true ∧ PyData.depthAll ds ≤ dp ∧ PyData.bulkAll ds ≤ ds.length * (bk + 1)
  | [], _ => ⟨rfl, rfl, rfl, Nat.zero_le _, by simp [PyData.bulkAll]⟩
  | d :: ds, h => by
    have a := h d List.mem_cons_self
    obtain ⟨b1, b2, b3, b4, b5⟩ := Sh.all (ds := ds) fun e he => h e (List.mem_cons_of_mem _ he)
    refine ⟨by simp [PyData.showableAll, a.sh, b1], by simp [PyData.canLayAll0, a.cl, b2], by simp [PyData.leavesShortAll, a.lf, b3], ?_, ?_⟩
    · have := a.dp
      simp only [PyData.depthAll]
      omega
    · have := a.bk
      simp only [PyData.bulkAll, List.length_cons]
      rw [Nat.add_mul]
      omega
theorem Sh.list {dp bk : Nat} {ds : List PyData} (h : ∀ d ∈ ds, Sh dp bk d) : Sh (dp + 1) (ds.length * (bk + 1)) (.list ds) := by
  obtain ⟨b1, b2, b3, b4, b5⟩ := Sh.all h
  exact ⟨by simp only [PyData.showable, b1], by simp only [PyData.canLay0, b2], by simp only [PyData.leavesShort, b3], by simp only [PyData.depth]; omega, by simpa only [PyData.bulk] using b5⟩
theorem Sh.tuple {dp bk : Nat} {ds : List PyData} (h : ∀ d ∈ ds, Sh dp bk d) : Sh (dp + 1) (ds.length * (bk + 1)) (.tuple ds) := by
  obtain ⟨b1, b2, b3, b4, b5⟩ := Sh.all h
  exact ⟨by simp only [PyData.showable, b1], by simp only [PyData.canLay0, b2], by simp only [PyData.leavesShort, b3], by simp only [PyData.depth]; omega, by simpa only [PyData.bulk] using b5⟩
theorem Sh.up {dp bk dp' bk' : Nat} {d : PyData} (h : Sh dp bk d) (h1 : dp ≤ dp') (h2 : bk ≤ bk') : Sh dp' bk' d := ⟨h.sh, h.cl, h.lf, Nat.le_trans h.dp h1, Nat.le_trans h.bk h2⟩
/-- lists of ints, lists of such -/
def dI (ns : List Int) : PyData := .list (ns.map PyData.int)
def dL (ls : List (List Int)) : PyData := .list (ls.map dI)
theorem Sh.ints {ns : List Int} {k : Nat} (h : ∀ n ∈ ns, n.natAbs < 2 ^ 1000) (hk : ns.length ≤ k) : Sh 1 k (dI ns) := by
  refine (Sh.list (dp := 0) (bk := 0) fun d hd => ?_).up (Nat.le_refl _) (by simp; exact hk)
  obtain ⟨n, hn, rfl⟩ := List.mem_map.mp hd
  exact Sh.int (h n hn)
theorem Sh.lists {ls : List (List Int)} {k m : Nat} (h : ∀ l ∈ ls, ∀ n ∈ l, n.natAbs < 2 ^ 1000) (hk : ∀ l ∈ ls, l.length ≤ k) (hm : ls.length ≤ m) : Sh 2 (m * (k + 1)) (dL ls) := by
  refine (Sh.list (dp := 1) (bk := k) fun d hd => ?_).up (Nat.le_refl _) (by rw [List.length_map]; exact Nat.mul_le_mul_right _ hm)
  obtain ⟨l, hl, rfl⟩ := List.mem_map.mp hd
  exact Sh.ints (h l hl) (hk l hl)
theorem dpAll_lists {K : PySem.W.Frag} {H : Hp} : ∀ {ls : List (Addr × List Int)}, (∀ q ∈ ls, H q.1 = some (.lst (q.2.map V.int))) → DpAll K H (rfs ls) ((ls.map (·.2)).map dI)
  | [], _ => .nil
  | q :: ls, h => .cons (dp_ints (SqL.of (h q List.mem_cons_self))) (dpAll_lists fun r hr => h r (List.mem_cons_of_mem _ hr))
theorem dp_lists {K : PySem.W.Frag} {H : Hp} {p : Addr} {ls : List (Addr × List Int)} (hp : SqL K H p (rfs ls)) (h : ∀ q ∈ ls, H q.1 = some (.lst (q.2.map V.int))) : Dp K H (.ref p) (dL (ls.map (·.2))) := .lst hp (dpAll_lists h)
/-! ### cutting: the mirror -/
def endsP (by_ most : Int) (acc : List Int) (n : Int) : Bool := decide (n % by_ = 0) || decide ((((acc ++ [n]).length : Nat) : Int) = most)
def cutStep (by_ most : Int) (s : List (List Int) × List Int) (n : Int) : List (List Int) × List Int := if endsP by_ most s.2 n = true then (s.1 ++ [s.2 ++ [n]], []) else (s.1, s.2 ++ [n])
def cutS (by_ most : Int) (ns : List Int) : List (List Int) × List Int := ns.foldl (cutStep by_ most) ([], [])
def cutFin (s : List (List Int) × List Int) : List (List Int) := if s.2 = [] then s.1 else s.1 ++ [s.2]
def cutN (by_ most : Int) (ns : List Int) : List (List Int) := cutFin (cutS by_ most ns)
theorem cutS_snoc (by_ most : Int) (ns : List Int) (n : Int) : cutS by_ most (ns ++ [n]) = cutStep by_ most (cutS by_ most ns) n := by
  unfold cutS
  rw [List.foldl_append]
  rfl
/-- what is cut is all there, no piece empty, none too long -/
structure CutOk (most : Int) (ns : List Int) (s : List (List Int) × List Int) : Prop where
  join : s.1.flatten ++ s.2 = ns
  ne : ∀ l ∈ s.1, l ≠ []
  le : ∀ l ∈ s.1, (l.length : Int) ≤ most
  lt : (s.2.length : Int) < most
theorem cutS_ok {by_ most : Int} (hm : 1 ≤ most) (ns : List Int) : CutOk most ns (cutS by_ most ns) := by
  suffices h : ∀ (r : List Int) (p : List Int) (s : List (List Int) × List Int), CutOk most p s → CutOk most (p ++ r) (r.foldl (cutStep by_ most) s) from h ns [] ([], []) ⟨rfl, (fun _ h => nomatch h), (fun _ h => nomatch h), by simp; omega⟩
  intro r
  induction r with
  | nil =>
    intro p s h
    rw [List.append_nil]
    exact h
  | cons n r ih =>
    intro p s h
    have e : p ++ n :: r = (p ++ [n]) ++ r := by simp
    rw [e, List.foldl_cons]
    refine ih _ _ ?_
    have hl := h.lt
    unfold cutStep
    split
    · rename_i hc
      refine ⟨?_, fun l hl => ?_, fun l hl => ?_, by simp; omega⟩
      · have := h.join
        simp [← this]
      · rcases List.mem_append.mp hl with z | z
        · exact h.ne l z
        · cases List.mem_singleton.mp z
          simp
      · rcases List.mem_append.mp hl with z | z
        · exact h.le l z
        · cases List.mem_singleton.mp z
          simp
          omega
    · rename_i hc
      refine ⟨?_, h.ne, h.le, ?_⟩
      · have := h.join
        simp [← this]
      · unfold endsP at hc
        simp only [Bool.or_eq_true, decide_eq_true_eq, not_or, List.length_append, List.length_cons, List.length_nil] at hc ⊢
        omega
theorem cutN_join {by_ most : Int} (hm : 1 ≤ most) (ns : List Int) : (cutN by_ most ns).flatten = ns := by
  have h := (cutS_ok (by_ := by_) hm ns).join
  unfold cutN cutFin
  split
  · rename_i e
    rw [e, List.append_nil] at h
    exact h
  · rw [List.flatten_append]
    simpa using h
theorem cutN_ne {by_ most : Int} (hm : 1 ≤ most) (ns : List Int) : ∀ l ∈ cutN by_ most ns, l ≠ [] := by
  have h := (cutS_ok (by_ := by_) hm ns).ne
  unfold cutN cutFin
  split
  · exact h
  · rename_i e
    intro l hl
    rcases List.mem_append.mp hl with z | z
    · exact h l z
    · cases List.mem_singleton.mp z
      exact e
theorem cutN_le {by_ most : Int} (hm : 1 ≤ most) (ns : List Int) : ∀ l ∈ cutN by_ most ns, (l.length : Int) ≤ most := by
  have h := (cutS_ok (by_ := by_) hm ns)
  unfold cutN cutFin
  split
  · exact h.le
  · intro l hl
    rcases List.mem_append.mp hl with z | z
    · exact h.le l z
    · cases List.mem_singleton.mp z
      exact Int.le_of_lt h.lt
theorem len_flatten_ge : ∀ (ls : List (List Int)), (∀ l ∈ ls, l ≠ []) → ls.length ≤ ls.flatten.length
  | [], _ => by simp
  | l :: ls, h => by
    have ih := len_flatten_ge ls fun m hm => h m (List.mem_cons_of_mem _ hm)
    have : 0 < l.length := List.length_pos_iff.mpr (h l List.mem_cons_self)
    simp only [List.length_cons, List.flatten_cons, List.length_append]
    omega
theorem cutN_len {by_ most : Int} (hm : 1 ≤ most) (ns : List Int) : (cutN by_ most ns).length ≤ ns.length := by
  have h := len_flatten_ge _ (cutN_ne (by_ := by_) hm ns)
  rw [cutN_join hm] at h
  exact h
theorem cutN_mem {by_ most : Int} (hm : 1 ≤ most) {ns : List Int} {l : List Int} (hl : l ∈ cutN by_ most ns) {n : Int} (hn : n ∈ l) : n ∈ ns := by
  rw [← cutN_join (by_ := by_) hm ns]
  exact List.mem_flatten.mpr ⟨l, hl, hn⟩
theorem sign_small {n : Int} (h : 0 ≤ n ∧ n ≤ 999) : n.natAbs < 2 ^ 1000 := by
  have q : (1000 : Nat) < 2 ^ 1000 := by decide +kernel
  omega
theorem cutN_shw {by_ most : Int} {ns : List Int} (hm : 1 ≤ most) (h16 : most ≤ 16) (hs : Signs 0 48 ns) : Shw (dL (cutN by_ most ns)) := by
  refine (Sh.lists (k := 16) (m := 48) (fun l hl n hn => sign_small (hs.sg n (cutN_mem hm hl hn))) (fun l hl => ?_) (Nat.le_trans (cutN_len hm ns) hs.hi)).shw (by decide) (by decide)
  have := cutN_le hm ns l hl
  omega
def sp_is_whole (K : PySem.W.Frag) : Sp := fun vs H Q _ => ∃ i : Int, vs = [.int i] ∧ Q (.bl true) H
def sp_is_sign (K : PySem.W.Frag) : Sp := fun vs H Q _ => ∃ i : Int, vs = [.int i] ∧ Q (.bl (decide (0 ≤ i ∧ i ≤ 999))) H
def sp_are_signs (K : PySem.W.Frag) : Sp := fun vs H Q _ => ∃ (a : Addr) (lo hi : Nat) (ns : List Int), vs = [.ref a, .int lo, .int hi] ∧ TyOf K H (.ref a) (.type "list") ∧ SqL K H a (ns.map V.int) ∧ Signs lo hi ns ∧ Q (.bl true) H
abbrev t_is_whole (K : PySem.W.Frag) : TS := (tRet (tAndV (tCB (rIsi K) (tCons (tVar 0) (tCons (tC (.ty "int")) tNil))) (tNotV (tCB (rIsi K) (tCons (tVar 0) (tCons (tC (.ty "bool")) tNil))))))
abbrev t_is_sign (K : PySem.W.Frag) : TS := (tRet (tAndV (tCall (sp_is_whole K) [] E0 (tCons (tVar 0) tNil)) (tChain uLe uLe (tC (.int 0)) (tVar 0) (tC (.int 999)))))
abbrev t_are_signs_4 (K : PySem.W.Frag) : TS := (tIfS (tNot (tB (tCall (sp_is_sign K) [] E0 (tCons (tVar 3) tNil)))) (tRet (tC (.bl false))) tNext)
abbrev t_are_signs_3 (K : PySem.W.Frag) : TS := (tSeq (tFor (iList K (tVar 0)) (gName 3) (t_are_signs_4 K))
  (tRet (tC (.bl true))))
abbrev t_are_signs_1 (K : PySem.W.Frag) : TS := (tSeq (tIfS (tOr (tNot (tB (tCB (rIsi K) (tCons (tVar 0) (tCons (tC (.ty "list")) tNil))))) (tNot (tTest (tChain uLe uLe (tVar 1) (tCB (uLen K) (tCons (tVar 0) tNil)) (tVar 2))))) (tRet (tC (.bl false))) tNext)
  (t_are_signs_3 K))
abbrev t_are_signs (K : PySem.W.Frag) : TS := (t_are_signs_1 K)
theorem len_is_whole {K : PySem.W.Frag} (vs : List V) (H : Hp) (Q : VK) (E : XK) (h : sp_is_whole K vs H Q E) : vs.length = 1 := by
  obtain ⟨i, rfl, _⟩ := h
  rfl
theorem len_is_sign {K : PySem.W.Frag} (vs : List V) (H : Hp) (Q : VK) (E : XK) (h : sp_is_sign K vs H Q E) : vs.length = 1 := by
  obtain ⟨i, rfl, _⟩ := h
  rfl
theorem len_are_signs {K : PySem.W.Frag} (vs : List V) (H : Hp) (Q : VK) (E : XK) (h : sp_are_signs K vs H Q E) : vs.length = 3 := by
  obtain ⟨a, lo, hi, ns, rfl, _⟩ := h
  rfl
theorem v_isi {K : PySem.W.Frag} {H : Hp} {Q : VK} {x : V} {t : Value} {c : String} {b : Bool} (h : TyOf K H x t) (e : PySem.W.kitOne K t (.type c) = some b) (k : Q (.bl b) H) : rIsi K [x, .ty c] H Q := ⟨x, .ty c, t, _, b, rfl, .ty c, .base h, e, k⟩
theorem pure_is_whole {K : PySem.W.Frag} (vs : List V) (H : Hp) (Q : VK) (E : XK) (h : sp_is_whole K vs H Q E) : t_is_whole K { nx := fun _ H' => Q .non H', rt := Q } (start ["thing"] vs) H := by
  obtain ⟨i, rfl, k⟩ := h
  show t_is_whole K _ [some (V.int i)] H
  walk_at "go"
  refine v_isi (.int i) rfl ?_
  walk_at "go"
  refine v_isi (.int i) rfl ?_
  walk_at "go"
  exact k
theorem pure_is_sign {K : PySem.W.Frag} (vs : List V) (H : Hp) (Q : VK) (E : XK) (h : sp_is_sign K vs H Q E) : t_is_sign K { nx := fun _ H' => Q .non H', rt := Q } (start ["thing"] vs) H := by
  obtain ⟨i, rfl, k⟩ := h
  show t_is_sign K _ [some (V.int i)] H
  walk_at "go"
  refine ⟨i, rfl, ?_⟩
  walk_at "go"
  refine v_ifD (fun h => ?_) (fun h => ?_)
  · walk_at "go"
    have e : decide (i ≤ 999) = decide (0 ≤ i ∧ i ≤ 999) := decide_eq_decide.mpr ⟨fun z => ⟨h, z⟩, fun z => z.2⟩
    rw [e]
    exact k
  · walk_at "go"
    have e : decide (0 ≤ i ∧ i ≤ 999) = false := decide_eq_false fun z => h z.1
    rw [e] at k
    exact k
theorem pure_are_signs {K : PySem.W.Frag} (vs : List V) (H : Hp) (Q : VK) (E : XK) (h : sp_are_signs K vs H Q E) : t_are_signs K { nx := fun _ H' => Q .non H', rt := Q } (start ["thing", "fewest", "most", "sign"] vs) H := by
  obtain ⟨a, lo, hi, ns, rfl, ty, hS, sg, k⟩ := h
  have h1 := sg.lo
  have h2 := sg.hi
  show t_are_signs K _ [some (V.ref a), some (V.int lo), some (V.int hi), none] H
  walk_at "go"
  refine v_isi ty rfl ?_
  walk_at "go"
  refine v_ifD (fun h => ?_) (fun h => ?_)
  · walk_at "go"
    refine v_ifN (fun h => ?_) (fun h => ?_)
    · rw [List.length_map] at h
      omega
    · walk_at "go"
      refine v_itL hS ?_
      refine for_W walk_list (fun i σ H' => H' = H ∧ ∃ v, σ = [some (V.ref a), some (V.int lo), some (V.int hi), v]) ⟨rfl, none, rfl⟩ (fun i σ H' _ h => by rw [h.1]; exact hS) ?_ ?_
      · rintro i x σ H1 H2 hi ⟨rfl, v, rfl⟩ ⟨rfl, hx⟩
        obtain ⟨n, hn, rfl⟩ := ints_get hx
        walk_at "go"
        refine ⟨n, rfl, ?_⟩
        rw [decide_eq_true (sg.sg n (List.mem_of_getElem? hn))]
        walk_at "go"
        exact ⟨rfl, _, rfl⟩
      · rintro σ H2 ⟨rfl, v, rfl⟩
        walk_at "go"
        exact k
  · rw [List.length_map] at h
    omega
theorem u_are_signs {K : PySem.W.Frag} {H : Hp} {a : Addr} {lo hi : Nat} {ns : List Int} {Q : VK} {E : XK} (ty : TyOf K H (.ref a) (.type "list")) (h : SqL K H a (ns.map V.int)) (sg : Signs lo hi ns) (k : Q (.bl true) H) :
    sp_are_signs K ([.ref a, .int lo, .int hi] ++ []) H Q E := ⟨a, lo, hi, ns, rfl, ty, h, sg, k⟩
def sp_is_mark (K : PySem.W.Frag) : Sp := fun vs H Q _ => ∃ i : Int, vs = [.int i] ∧ (2 ≤ i ∧ i ≤ 50) ∧ Q (.bl true) H
def sp_is_most (K : PySem.W.Frag) : Sp := fun vs H Q _ => ∃ i : Int, vs = [.int i] ∧ (1 ≤ i ∧ i ≤ 16) ∧ Q (.bl true) H
def sp_need_numbers (K : PySem.W.Frag) : Sp := fun vs H Q _ => ∃ i j : Int, vs = [.int i, .int j] ∧ (2 ≤ i ∧ i ≤ 50) ∧ (1 ≤ j ∧ j ≤ 16) ∧ Q .non H
def sp_is_content (K : PySem.W.Frag) : Sp := fun vs H Q _ => ∃ (a : Addr) (ns : List Int), vs = [.ref a] ∧ TyOf K H (.ref a) (.type "list") ∧ SqL K H a (ns.map V.int) ∧ Signs 0 48 ns ∧ Q (.bl true) H
def sp_cut (K : PySem.W.Frag) : Sp := fun vs H Q _ => ∃ (Rs : List Res) (a : Addr) (by_ most : Int) (ns : List Int), vs = [.ref a, .int by_, .int most] ∧ M Rs H ∧ Ent Rs (fun H => H a = some (.lst (ns.map V.int))) ∧ (2 ≤ by_ ∧ by_ ≤ 50) ∧ (1 ≤ most ∧ most ≤ 16) ∧ Signs 0 48 ns ∧
  ∀ p ls H', ls.map (·.2) = cutN by_ most ns → M (pt p (.lst (rfs ls)) :: pts ls :: Rs) H' → Q (.ref p) H'
theorem len_is_mark {K : PySem.W.Frag} (vs : List V) (H : Hp) (Q : VK) (E : XK) (h : sp_is_mark K vs H Q E) : vs.length = 1 := by
  obtain ⟨i, rfl, _⟩ := h
  rfl
theorem len_is_most {K : PySem.W.Frag} (vs : List V) (H : Hp) (Q : VK) (E : XK) (h : sp_is_most K vs H Q E) : vs.length = 1 := by
  obtain ⟨i, rfl, _⟩ := h
  rfl
theorem len_need_numbers {K : PySem.W.Frag} (vs : List V) (H : Hp) (Q : VK) (E : XK) (h : sp_need_numbers K vs H Q E) : vs.length = 2 := by
  obtain ⟨i, j, rfl, _⟩ := h
  rfl
theorem len_is_content {K : PySem.W.Frag} (vs : List V) (H : Hp) (Q : VK) (E : XK) (h : sp_is_content K vs H Q E) : vs.length = 1 := by
  obtain ⟨i, j, rfl, _⟩ := h
  rfl
theorem len_cut {K : PySem.W.Frag} (vs : List V) (H : Hp) (Q : VK) (E : XK) (h : sp_cut K vs H Q E) : vs.length = 3 := by
  obtain ⟨Rs, a, b, m, ns, rfl, _⟩ := h
  rfl
abbrev t_is_mark (K : PySem.W.Frag) : TS := (tRet (tAndV (tCall (sp_is_whole K) [] E0 (tCons (tVar 0) tNil)) (tChain uLe uLe (tC (.int 2)) (tVar 0) (tC (.int 50)))))
abbrev t_is_most (K : PySem.W.Frag) : TS := (tRet (tAndV (tCall (sp_is_whole K) [] E0 (tCons (tVar 0) tNil)) (tChain uLe uLe (tC (.int 1)) (tVar 0) (tC (.int 16)))))
abbrev t_need_numbers_3 (K : PySem.W.Frag) : TS := (tIfS (tNot (tB (tCall (sp_is_most K) [] E0 (tCons (tVar 1) tNil)))) tNever tNext)
abbrev t_need_numbers_1 (K : PySem.W.Frag) : TS := (tSeq (tIfS (tNot (tB (tCall (sp_is_mark K) [] E0 (tCons (tVar 0) tNil)))) tNever tNext)
  (t_need_numbers_3 K))
abbrev t_need_numbers (K : PySem.W.Frag) : TS := (t_need_numbers_1 K)
abbrev t_is_content (K : PySem.W.Frag) : TS := (tRet (tCall (sp_are_signs K) [] E0 (tCons (tVar 0) (tCons (tC (.int 0)) (tCons (tC (.int 48)) tNil)))))
abbrev t_cut_9 (K : PySem.W.Frag) : TS := (tSeq (tDrop (tBM K "list" rAppend (tOp (uIx K) (tVar 3) (tUn (rU fun i => .int (-i)) (tC (.int 1)))) (tCons (tVar 5) tNil)))
  (tAsg (tOrV (tOp (uEq K) (tOp uMod (tVar 5) (tVar 1)) (tC (.int 0))) (tOp (uEq K) (tCB (uLen K) (tCons (tOp (uIx K) (tVar 3) (tUn (rU fun i => .int (-i)) (tC (.int 1)))) tNil)) (tVar 2))) (gName 4)))
abbrev t_cut_7 (K : PySem.W.Frag) : TS := (tSeq (tIfS (tB (tVar 4)) (tDrop (tBM K "list" rAppend (tVar 3) (tCons (tLst tNil) tNil))) tNext)
  (t_cut_9 K))
abbrev t_cut_6 (K : PySem.W.Frag) : TS := (tSeq (tFor (iList K (tVar 0)) (gName 5) (t_cut_7 K))
  (tRet (tVar 3)))
abbrev t_cut_5 (K : PySem.W.Frag) : TS := (tSeq (tAsg (tC (.bl true)) (gName 4))
  (t_cut_6 K))
abbrev t_cut_4 (K : PySem.W.Frag) : TS := (tSeq (tAsg (tLst tNil) (gName 3))
  (t_cut_5 K))
abbrev t_cut_3 (K : PySem.W.Frag) : TS := (tSeq (tDrop (tCall (sp_need_numbers K) [] E0 (tCons (tVar 1) (tCons (tVar 2) tNil))))
  (t_cut_4 K))
abbrev t_cut_1 (K : PySem.W.Frag) : TS := (tSeq (tIfS (tNot (tB (tCall (sp_is_content K) [] E0 (tCons (tVar 0) tNil)))) tNever tNext)
  (t_cut_3 K))
abbrev t_cut (K : PySem.W.Frag) : TS := (t_cut_1 K)
theorem pure_is_mark {K : PySem.W.Frag} (vs : List V) (H : Hp) (Q : VK) (E : XK) (h : sp_is_mark K vs H Q E) : t_is_mark K { nx := fun _ H' => Q .non H', rt := Q } (start ["thing"] vs) H := by
  obtain ⟨i, rfl, ⟨h1, h2⟩, k⟩ := h
  show t_is_mark K _ [some (V.int i)] H
  walk_at "go"
  refine ⟨i, rfl, ?_⟩
  walk_at "go"
  rw [decide_eq_true h1]
  walk_at "go"
  rw [decide_eq_true h2]
  exact k
theorem pure_is_most {K : PySem.W.Frag} (vs : List V) (H : Hp) (Q : VK) (E : XK) (h : sp_is_most K vs H Q E) : t_is_most K { nx := fun _ H' => Q .non H', rt := Q } (start ["thing"] vs) H := by
  obtain ⟨i, rfl, ⟨h1, h2⟩, k⟩ := h
  show t_is_most K _ [some (V.int i)] H
  walk_at "go"
  refine ⟨i, rfl, ?_⟩
  walk_at "go"
  rw [decide_eq_true h1]
  walk_at "go"
  rw [decide_eq_true h2]
  exact k
theorem pure_need_numbers {K : PySem.W.Frag} (vs : List V) (H : Hp) (Q : VK) (E : XK) (h : sp_need_numbers K vs H Q E) : t_need_numbers K { nx := fun _ H' => Q .non H', rt := Q } (start ["mark", "most"] vs) H := by
  obtain ⟨i, j, rfl, h1, h2, k⟩ := h
  show t_need_numbers K _ [some (V.int i), some (V.int j)] H
  walk_at "go"
  refine ⟨i, rfl, h1, ?_⟩
  walk_at "go"
  refine ⟨j, rfl, h2, ?_⟩
  walk_at "go"
  exact k
theorem pure_is_content {K : PySem.W.Frag} (vs : List V) (H : Hp) (Q : VK) (E : XK) (h : sp_is_content K vs H Q E) : t_is_content K { nx := fun _ H' => Q .non H', rt := Q } (start ["thing"] vs) H := by
  obtain ⟨a, ns, rfl, ty, hS, sg, k⟩ := h
  show t_is_content K _ [some (V.ref a)] H
  walk_at "go"
  refine u_are_signs (lo := 0) (hi := 48) ty hS sg ?_
  walk_at "go"
  exact k
/-- the pieces while it goes on: all told ones, the open one last -/
def openP (s : List (List Int) × List Int) : List (List Int) := if s.2 = [] then s.1 else s.1 ++ [s.2]
theorem atI_rfs_last (ls : List (Addr × List Int)) (p : Addr) (ns : List Int) : atI (rfs (ls ++ [(p, ns)])) (-1) = some (.ref p) := by
  rw [rfs_snoc]
  exact atI_last _ _
def CutI (a fo : Addr) (by_ most : Int) (Rs : List Res) (s : List (List Int) × List Int) (i : Nat) (σ : L2.St) (H : Hp) : Prop :=
  ∃ (ls : List (Addr × List Int)) (v : Option V), σ = [some (V.ref a), some (V.int by_), some (V.int most), some (V.ref fo), some (V.bl (decide (s.2 = []))), v] ∧ ls.map (·.2) = openP s ∧ ls.length ≤ i ∧ M (pt fo (.lst (rfs ls)) :: pts ls :: Rs) H
theorem rfs_same {ls ls' : List (Addr × List Int)} {p : Addr} {ns ns' : List Int} : rfs (ls ++ [(p, ns)]) = rfs (ls ++ [(p, ns')]) := by rw [rfs_snoc, rfs_snoc]
theorem openP_step (by_ most : Int) (cl : List (List Int)) (acc : List Int) (n : Int) : openP (cutStep by_ most (cl, acc) n) = cl ++ [acc ++ [n]] := by
  unfold cutStep openP
  split
  · simp
  · simp
theorem step_ended (by_ most : Int) (cl : List (List Int)) (acc : List Int) (n : Int) : decide ((cutStep by_ most (cl, acc) n).2 = []) = endsP by_ most acc n := by
  unfold cutStep
  split
  · rename_i h
    rw [h]
    simp
  · rename_i h
    rw [Bool.not_eq_true] at h
    rw [h]
    simp
theorem cut_fin {K : PySem.W.Frag} {a fo p : Addr} {by_ most n : Int} {Rs : List Res} {cl : List (List Int)} {acc : List Int} {i : Nat} {H : Hp} {D : Ends} {ls : List (Addr × List Int)} {ow : Option V} (hb : 2 ≤ by_) (hi : i < 48) (ha : acc.length < 100)
    (hl : ls.map (·.2) = cl) (hlen : ls.length ≤ i) (S : M (pt fo (.lst (rfs (ls ++ [(p, acc)]))) :: pts (ls ++ [(p, acc)]) :: Rs) H) (hD : ∀ σ H, CutI a fo by_ most Rs (cutStep by_ most (cl, acc) n) (i + 1) σ H → D.nx σ H) :
    t_cut_9 K D [some (V.ref a), some (V.int by_), some (V.int most), some (V.ref fo), ow, some (V.int n)] H := by
  have hix : ∀ acc : List Int, atI (rfs (ls ++ [(p, acc)])) (-1) = some (.ref p) := fun acc => atI_rfs_last _ _ _
  walk_at "st"
  refine v_ixL (SqL.of (S.got 0 rfl)) (hix _) ?_
  have S1 : M (pts (ls ++ [(p, acc)]) :: pt fo (.lst (rfs (ls ++ [(p, acc)]))) :: Rs) H := S.perm (.swap _ _ _)
  have S2 := S1.ptsL
  refine v_tyL (SqL.of S2.hd) ?_
  walk_at "ev"
  refine v_app S2 0 rfl (by rw [List.length_map]; omega) fun H1 S3 => ?_
  have S3' : M (pt p (.lst ((acc ++ [n]).map V.int)) :: pts ls :: pt fo (.lst (rfs (ls ++ [(p, acc)]))) :: Rs) H1 := by
    rw [List.map_append]
    exact S3
  have S4 : M (pt fo (.lst (rfs (ls ++ [(p, acc ++ [n])]))) :: pts (ls ++ [(p, acc ++ [n])]) :: Rs) H1 := by
    have z := S3'.ptsS.perm (.swap _ _ _)
    rw [rfs_snoc] at z ⊢
    exact z
  have fin : D.nx [some (V.ref a), some (V.int by_), some (V.int most), some (V.ref fo), some (V.bl (endsP by_ most acc n)), some (V.int n)] H1 := by
    refine hD _ _ ⟨ls ++ [(p, acc ++ [n])], some (V.int n), ?_, ?_, ?_, S4⟩
    · rw [step_ended]
    · rw [openP_step, List.map_append, hl]
      rfl
    · rw [List.length_append]
      simp
      omega
  clear S S1 S2 S3 S3'
  walk_at "st"
  refine v_ifD (fun h => ?_) (fun h => ?_)
  · have e : endsP by_ most acc n = true := by
      unfold endsP
      rw [decide_eq_true h]
      rfl
    rw [e] at fin
    exact fin
  · walk_at "ev"
    refine v_ixL (SqL.of (S4.got 0 rfl)) (hix _) ?_
    walk_at "ev"
    have S5 := (S4.perm (.swap _ _ _)).ptsL
    refine v_lenL (SqL.of S5.hd) ?_
    walk_at "ev"
    rw [List.length_map]
    have e : endsP by_ most acc n = decide ((((acc ++ [n]).length : Nat) : Int) = most) := by
      unfold endsP
      rw [decide_eq_false h]
      rfl
    rw [e] at fin
    exact fin
theorem pure_cut {K : PySem.W.Frag} (vs : List V) (H : Hp) (Q : VK) (E : XK) (h : sp_cut K vs H Q E) : t_cut K { nx := fun _ H' => Q .non H', rt := Q } (start ["content", "mark", "most", "found", "ended", "sign"] vs) H := by
  obtain ⟨Rs, a, by_, most, ns, rfl, S, hS, hb, hm, sg, k⟩ := h
  show t_cut K _ [some (V.ref a), some (V.int by_), some (V.int most), none, none, none] H
  walk_at "go"
  refine ⟨a, ns, rfl, .lst (hS H S), SqL.of (hS H S), sg, ?_⟩
  walk_at "go"
  refine ⟨by_, most, rfl, hb, hm, ?_⟩
  walk_at "go"
  refine v_lst S (by simp) fun fo H1 S1 => ?_
  walk_at "go"
  refine v_itL (SqL.of (hS H1 S1.tl)) ?_
  refine for_W walk_list (fun i σ H' => CutI a fo by_ most Rs (cutS by_ most (ns.take i)) i σ H')
    ⟨[], none, rfl, rfl, Nat.le_refl _, S1.pts0.perm (.swap _ _ _)⟩ (fun i σ H' _ ⟨_, _, _, _, _, S⟩ => SqL.of (hS H' S.tl.tl)) ?_ ?_
  · rintro i x σ H2 H3 hi ⟨ls, v, rfl, hls, hlen, S⟩ ⟨rfl, hx⟩
    obtain ⟨n, hn, rfl⟩ := ints_get hx
    have hi2 : i < 48 := by
      have := (List.getElem?_eq_some_iff.mp hn).1
      have := sg.hi
      omega
    have ok := cutS_ok (by_ := by_) hm.1 (ns.take i)
    rw [take_more hn, cutS_snoc]
    generalize cutS by_ most (ns.take i) = s at hls ok
    obtain ⟨cl, acc⟩ := s
    have hal : acc.length < 100 := by
      have := ok.lt
      simp only at this
      omega
    walk_at "go"
    refine v_ifD (fun h => ?_) (fun h => ?_)
    · cases (show acc = [] from h)
      walk_at "st"
      refine v_tyL (SqL.of (S.got 0 rfl)) ?_
      walk_at "ev"
      refine v_lst S (by simp) fun p H4 S4 => ?_
      walk_at "ev"
      refine v_app S4 1 rfl (by rw [rfs_len]; omega) fun H5 S5 => ?_
      have S6 : M (pt p (.lst (([] : List Int).map V.int)) :: pts ls :: pt fo (.lst (rfs ls ++ [V.ref p])) :: Rs) H5 := S5.perm (.cons _ (.swap _ _ _))
      have S7 := S6.ptsS.perm (.swap _ _ _)
      walk_at "nx"
      refine cut_fin hb.1 hi2 hal hls hlen (by rw [rfs_snoc]; exact S7) fun σ H h => h
    · have hne : acc ≠ [] := h
      have e : openP (cl, acc) = cl ++ [acc] := by
        unfold openP
        rw [if_neg hne]
      rw [e] at hls
      obtain ⟨l1, l2, rfl, h1, h2⟩ := List.map_eq_append_iff.mp hls
      obtain ⟨q, rfl, hq⟩ := List.map_eq_singleton_iff.mp h2
      obtain ⟨p, ms⟩ := q
      cases (show ms = acc from hq)
      refine g_next ?_
      walk_at "nx"
      refine cut_fin hb.1 hi2 hal h1 (by simp at hlen; omega) S fun σ H h => h
  · rintro σ H2 ⟨ls, v, rfl, hls, hlen, S⟩
    walk_at "go"
    rw [List.length_map, List.take_length] at hls
    exact k fo ls H2 hls S
/-! ### data that stand for ever -/
theorem M.dupF2 {K : PySem.W.Frag} {Rs : List Res} {H : Hp} {p : Addr} {ls : List (Addr × List Int)} (h : M (fz p (.lst (rfs ls)) :: fzs ls :: Rs) H) : M (dt K (.ref p) (dL (ls.map (·.2))) :: fz p (.lst (rfs ls)) :: fzs ls :: Rs) H := by
  obtain ⟨F, L, ⟨l1, l2, rfl, ⟨rfl, e⟩, l3, l4, rfl, ⟨rfl, f⟩, b⟩, m⟩ := h
  exact ⟨F, l4, ⟨[], l4, rfl, ⟨rfl, dp_lists (SqL.of e) f⟩, [], l4, rfl, ⟨rfl, e⟩, [], l4, rfl, ⟨rfl, f⟩, b⟩, m⟩
theorem M.toF2 {Rs : List Res} {H : Hp} {p : Addr} {ls : List (Addr × List Int)} (h : M (pt p (.lst (rfs ls)) :: pts ls :: Rs) H) : M (fz p (.lst (rfs ls)) :: fzs ls :: Rs) H := by
  have z : M (pts ls :: fzs [] :: fz p (.lst (rfs ls)) :: Rs) H := h.fix.fzs0.perm ((List.Perm.cons _ (.swap _ _ _)).trans (.swap _ _ _))
  have y := z.ptsF
  rw [List.nil_append] at y
  exact y.perm (.swap _ _ _)
theorem M.tup2 {K : PySem.W.Frag} {Rs : List Res} {H : Hp} {t : Addr} {x y : V} {d e : PyData} (h : M (pt t (.tup [x, y]) :: dt K x d :: dt K y e :: Rs) H) : M (dt K (.ref t) (.tuple [d, e]) :: dt K x d :: dt K y e :: Rs) H := by
  obtain ⟨F, L, ⟨l1, l2, rfl, ⟨rfl, e1⟩, l3, l4, rfl, ⟨rfl, e2⟩, l5, l6, rfl, ⟨rfl, e3⟩, b⟩, m⟩ := h.fix
  exact ⟨F, l6, ⟨[], l6, rfl, ⟨rfl, .tup (SqT.of e1) (.cons e2 (.cons e3 .nil))⟩, [], l6, rfl, ⟨rfl, e2⟩, [], l6, rfl, ⟨rfl, e3⟩, b⟩, m⟩
/-- values that are data for ever -/
def dtA (K : PySem.W.Frag) (vs : List V) (ds : List PyData) : Res := ⟨fun F l => l = [] ∧ DpAll K F vs ds, fun _ _ _ e h => ⟨h.1, DpAll_ext e h.2⟩⟩
theorem M.dtA0 {K : PySem.W.Frag} {Rs : List Res} {H : Hp} (h : M Rs H) : M (dtA K [] [] :: Rs) H := by
  obtain ⟨F, L, a, m⟩ := h
  exact ⟨F, L, ⟨[], L, rfl, ⟨rfl, .nil⟩, a⟩, m⟩
theorem DpAll.snoc {K : PySem.W.Frag} {H : Hp} {v : V} {d : PyData} (h : Dp K H v d) : ∀ {vs : List V} {ds : List PyData}, DpAll K H vs ds → DpAll K H (vs ++ [v]) (ds ++ [d])
  | _, _, .nil => .cons h .nil
  | _, _, .cons a r => .cons a (DpAll.snoc h r)
theorem DpAll.get {K : PySem.W.Frag} {H : Hp} : ∀ {vs : List V} {ds : List PyData}, DpAll K H vs ds → ∀ {i : Nat} {v : V}, vs[i]? = some v → ∃ d, d ∈ ds ∧ Dp K H v d
  | _, _, .nil, i, v, h => by simp at h
  | _, _, .cons a r, 0, v, h => by
    cases (Option.some.inj h)
    exact ⟨_, List.mem_cons_self, a⟩
  | _, _, .cons a r, i + 1, v, h => by
    obtain ⟨d, h1, h2⟩ := DpAll.get r (i := i) (v := v) (by simpa using h)
    exact ⟨d, List.mem_cons_of_mem _ h1, h2⟩
theorem M.dtA1 {K : PySem.W.Frag} {Rs : List Res} {H : Hp} {vs : List V} {ds : List PyData} {v : V} {d : PyData} (h : M (dt K v d :: dtA K vs ds :: Rs) H) : M (dtA K (vs ++ [v]) (ds ++ [d]) :: Rs) H := by
  obtain ⟨F, L, ⟨l1, l2, rfl, ⟨rfl, e⟩, l3, l4, rfl, ⟨rfl, f⟩, b⟩, m⟩ := h
  exact ⟨F, l4, ⟨[], l4, rfl, ⟨rfl, DpAll.snoc e f⟩, b⟩, m⟩
theorem M.gotA {K : PySem.W.Frag} {Rs : List Res} {H : Hp} {vs : List V} {ds : List PyData} (h : M Rs H) (i : Nat) (e : Rs[i]? = some (dtA K vs ds)) : DpAll K H vs ds := by
  obtain ⟨F, L, ⟨l1, l2, rfl, ⟨_, q⟩, b⟩, m⟩ := h.at i e
  exact DpAll_ext m.ex q
theorem Dp.tup2 {K : PySem.W.Frag} {H : Hp} {v : V} {d e : PyData} (h : Dp K H v (.tuple [d, e])) : ∃ t x y, v = .ref t ∧ SqT K H t [x, y] ∧ Dp K H x d ∧ Dp K H y e := by
  cases h with
  | tup h1 h2 =>
    cases h2 with
    | cons a r =>
      cases r with
      | cons b r =>
        cases r
        exact ⟨_, _, _, rfl, h1, a, b⟩
/-! ### data for ever: opened, closed -/
theorem DpAll.length {K : PySem.W.Frag} {H : Hp} : ∀ {vs : List V} {ds : List PyData}, DpAll K H vs ds → vs.length = ds.length
  | _, _, .nil => rfl
  | _, _, .cons _ r => by rw [List.length_cons, List.length_cons, DpAll.length r]
theorem DpAll.at {K : PySem.W.Frag} {H : Hp} : ∀ {vs : List V} {ds : List PyData}, DpAll K H vs ds → ∀ {i : Nat} {v : V}, vs[i]? = some v → ∃ d, ds[i]? = some d ∧ Dp K H v d
  | _, _, .nil, i, v, h => by simp at h
  | _, _, .cons a r, 0, v, h => by
    cases (Option.some.inj h)
    exact ⟨_, rfl, a⟩
  | _, _, .cons a r, i + 1, v, h => by
    obtain ⟨d, h1, h2⟩ := DpAll.at r (i := i) (v := v) (by simpa using h)
    exact ⟨d, by simpa using h1, h2⟩
theorem DpAll.ofD {K : PySem.W.Frag} {H : Hp} : ∀ {vs : List V} {ds : List PyData}, DpAll K H vs ds → ∀ {i : Nat} {d : PyData}, ds[i]? = some d → ∃ v, vs[i]? = some v ∧ Dp K H v d
  | _, _, .nil, i, v, h => by simp at h
  | _, _, .cons a r, 0, v, h => by
    cases (Option.some.inj h)
    exact ⟨_, rfl, a⟩
  | _, _, .cons a r, i + 1, v, h => by
    obtain ⟨d, h1, h2⟩ := DpAll.ofD r (i := i) (d := v) (by simpa using h)
    exact ⟨d, by simpa using h1, h2⟩
theorem DpAll.take {K : PySem.W.Frag} {H : Hp} : ∀ {vs : List V} {ds : List PyData}, DpAll K H vs ds → ∀ n, DpAll K H (vs.take n) (ds.take n)
  | _, _, .nil, n => by
    rw [List.take_nil, List.take_nil]
    exact .nil
  | _, _, .cons a r, 0 => .nil
  | _, _, .cons a r, n + 1 => .cons a (DpAll.take r n)
theorem DpAll.drop {K : PySem.W.Frag} {H : Hp} : ∀ {vs : List V} {ds : List PyData}, DpAll K H vs ds → ∀ n, DpAll K H (vs.drop n) (ds.drop n)
  | _, _, .nil, n => by
    rw [List.drop_nil, List.drop_nil]
    exact .nil
  | _, _, .cons a r, 0 => .cons a r
  | _, _, .cons a r, n + 1 => DpAll.drop r n
theorem DpAll.ints {K : PySem.W.Frag} {H : Hp} : ∀ {ns : List Int} {vs : List V}, DpAll K H vs (ns.map PyData.int) → vs = ns.map V.int
  | [], _, h => by
    cases h
    rfl
  | n :: r, _, h => by
    cases h with
    | cons a t =>
      cases a
      rw [DpAll.ints t]
      rfl
theorem M.openL {K : PySem.W.Frag} {Rs : List Res} {H : Hp} {v : V} {ds : List PyData} (h : M (dt K v (.list ds) :: Rs) H) : ∃ p vs, v = .ref p ∧ M (rdL K p vs :: dtA K vs ds :: Rs) H := by
  obtain ⟨F, L, ⟨l1, l2, rfl, ⟨rfl, e⟩, b⟩, m⟩ := h
  cases e with
  | lst h1 h2 => exact ⟨_, _, rfl, F, l2, ⟨[], l2, rfl, ⟨rfl, h1⟩, [], l2, rfl, ⟨rfl, h2⟩, b⟩, m⟩
theorem M.fixL {K : PySem.W.Frag} {Rs : List Res} {H : Hp} {p : Addr} {vs : List V} {ds : List PyData} (h : M (pt p (.lst vs) :: dtA K vs ds :: Rs) H) : M (dt K (.ref p) (.list ds) :: Rs) H := by
  obtain ⟨F, L, ⟨l1, l2, rfl, ⟨rfl, e⟩, l3, l4, rfl, ⟨rfl, f⟩, b⟩, m⟩ := h.fix
  exact ⟨F, l4, ⟨[], l4, rfl, ⟨rfl, .lst (SqL.of e) f⟩, b⟩, m⟩
theorem M.fixI {K : PySem.W.Frag} {Rs : List Res} {H : Hp} {p : Addr} {ns : List Int} (h : M (pt p (.lst (ns.map V.int)) :: Rs) H) : M (dt K (.ref p) (dI ns) :: Rs) H := by
  obtain ⟨F, L, ⟨l1, l2, rfl, ⟨rfl, e⟩, b⟩, m⟩ := h.fix
  exact ⟨F, l2, ⟨[], l2, rfl, ⟨rfl, dp_ints (SqL.of e)⟩, b⟩, m⟩
theorem M.openI {K : PySem.W.Frag} {Rs : List Res} {H : Hp} {v : V} {ns : List Int} (h : M (dt K v (dI ns) :: Rs) H) : ∃ p, v = .ref p ∧ M (rdL K p (ns.map V.int) :: Rs) H := by
  obtain ⟨p, vs, rfl, S⟩ := M.openL (ds := ns.map PyData.int) h
  obtain ⟨F, L, ⟨l1, l2, rfl, ⟨rfl, e⟩, l3, l4, rfl, ⟨rfl, f⟩, b⟩, m⟩ := S
  cases DpAll.ints f
  exact ⟨p, rfl, F, l4, ⟨[], l4, rfl, ⟨rfl, e⟩, b⟩, m⟩
theorem Dp.openI {K : PySem.W.Frag} {H : Hp} {v : V} {ns : List Int} (h : Dp K H v (dI ns)) : ∃ p, v = .ref p ∧ SqL K H p (ns.map V.int) := by
  unfold dI at h
  cases h with
  | lst h1 h2 =>
    cases DpAll.ints h2
    exact ⟨_, rfl, h1⟩
theorem M.dtAt {K : PySem.W.Frag} {Rs : List Res} {H : Hp} {vs : List V} {ds : List PyData} (h : M (dtA K vs ds :: Rs) H) {i : Nat} {v : V} (hv : vs[i]? = some v) : ∃ d, ds[i]? = some d ∧ M (dt K v d :: dtA K vs ds :: Rs) H := by
  obtain ⟨F, L, ⟨l1, l2, rfl, ⟨rfl, e⟩, b⟩, m⟩ := h
  obtain ⟨d, h1, h2⟩ := DpAll.at e hv
  exact ⟨d, h1, F, l2, ⟨[], l2, rfl, ⟨rfl, h2⟩, [], l2, rfl, ⟨rfl, e⟩, b⟩, m⟩
theorem M.dupA {K : PySem.W.Frag} {Rs : List Res} {H : Hp} {vs : List V} {ds : List PyData} (h : M (dtA K vs ds :: Rs) H) : M (dtA K vs ds :: dtA K vs ds :: Rs) H := by
  obtain ⟨F, L, ⟨l1, l2, rfl, ⟨rfl, e⟩, b⟩, m⟩ := h
  exact ⟨F, l2, ⟨[], l2, rfl, ⟨rfl, e⟩, [], l2, rfl, ⟨rfl, e⟩, b⟩, m⟩
theorem M.toD {K : PySem.W.Frag} {Rs : List Res} {H : Hp} {p : Addr} {ls : List (Addr × List Int)} (h : M (pt p (.lst (rfs ls)) :: pts ls :: Rs) H) : M (dt K (.ref p) (dL (ls.map (·.2))) :: Rs) H :=
  M.sub (.cons 0 rfl (.tl (.tl (.refl _)))) (h.toF2.dupF2 (K := K))
/-- what a row of resources brings about, itself owning nothing -/
def EntF (Rs : List Res) (R : Res) : Prop := ∀ F L, Sat F Rs L → R.on F []
theorem Sat.split {F : Hp} {R0 : List Res} : ∀ {As : List Res} {L : List Cell}, Sat F (As ++ R0) L → ∃ L1 L2, L = L1 ++ L2 ∧ Sat F As L1 ∧ Sat F R0 L2
  | [], L, h => ⟨[], L, rfl, rfl, h⟩
  | A :: As, L, ⟨l1, l2, e, a, b⟩ => by
    obtain ⟨L1, L2, rfl, h1, h2⟩ := Sat.split b
    exact ⟨l1 ++ L1, L2, by rw [e, List.append_assoc], ⟨l1, L1, rfl, a, h1⟩, h2⟩
theorem M.add {As R0 : List Res} {R : Res} {H : Hp} (e : EntF R0 R) (h : M (As ++ R0) H) : M (R :: (As ++ R0)) H := by
  obtain ⟨F, L, a, m⟩ := h
  obtain ⟨L1, L2, _, _, h2⟩ := a.split
  exact ⟨F, L, ⟨[], L, rfl, e F L2 h2, a⟩, m⟩
theorem M.add0 {R0 : List Res} {R : Res} {H : Hp} (e : EntF R0 R) (h : M R0 H) : M (R :: R0) H := M.add (As := []) e h
theorem EntF.at {Rs : List Res} {R S : Res} (i : Nat) (e : Rs[i]? = some S) (h : ∀ F l, S.on F l → R.on F []) : EntF Rs R := by
  intro F L s
  obtain ⟨L0, p0, l1, l2, rfl, a, b⟩ := s.perm (perm_at i e)
  exact h F l1 a
theorem EntF.dtA {K : PySem.W.Frag} {Rs : List Res} {vs : List V} {ds : List PyData} {j : Nat} {v : V} {d : PyData} (i : Nat) (e : Rs[i]? = some (dtA K vs ds)) (hv : vs[j]? = some v) (hd : ds[j]? = some d) : EntF Rs (dt K v d) :=
  EntF.at i e fun F l h => ⟨rfl, by
    obtain ⟨d', h1, h2⟩ := DpAll.at h.2 hv
    rw [hd] at h1
    cases h1
    exact h2⟩
def sp_l_content (K : PySem.W.Frag) : Sp := fun vs H Q _ => ∃ (Rs : List Res) (bag : Addr) (by_ many : Int), vs = [.ref bag, .int by_, .int many] ∧ M (bagR bag :: Rs) H ∧ (3 ≤ many ∧ many ≤ 48) ∧ (2 ≤ by_ ∧ by_ ≤ 50) ∧
  ∀ p ns H', Signs 0 48 ns → M (bagR bag :: pt p (.lst (ns.map V.int)) :: Rs) H' → Q (.ref p) H'
theorem len_l_content {K : PySem.W.Frag} (vs : List V) (H : Hp) (Q : VK) (E : XK) (h : sp_l_content K vs H Q E) : vs.length = 3 := by
  obtain ⟨Rs, a, b, m, rfl, _⟩ := h
  rfl
abbrev t_l_content_10 (K : PySem.W.Frag) : TS := (tSeq (tIfS (tTest (tOp (uEq K) (tVar 3) (tC (.int 2)))) (tAsg (tOp (uAdd K) (tOp (uAdd K) (tOp uMul (tOp uDiv (tOp uMod (tVar 7) (tOp uSub (tC (.int 999)) (tVar 1))) (tVar 1)) (tVar 1)) (tC (.int 1))) (tOp uMod (tVar 7) (tOp uSub (tVar 1) (tC (.int 1))))) (gName 7)) tNext)
  (tDrop (tBM K "list" rAppend (tVar 5) (tCons (tVar 7) tNil))))
abbrev t_l_content_8 (K : PySem.W.Frag) : TS := (tSeq (tIfS (tTest (tOp (uEq K) (tVar 3) (tC (.int 1)))) (tAsg (tOp uSub (tVar 7) (tOp uMod (tVar 7) (tVar 1))) (gName 7)) tNext)
  (t_l_content_10 K))
abbrev t_l_content_6 (K : PySem.W.Frag) : TS := (tSeq (tIfS (tTest (tOp (uEq K) (tVar 3) (tC (.int 0)))) (tAsg (tOp (uIx K) (tVar 4) (tOp uMod (tVar 7) (tC (.int 4)))) (gName 7)) tNext)
  (t_l_content_8 K))
abbrev t_l_content_5 (K : PySem.W.Frag) : TS := (tSeq (tAsg (tCall (sp_l_take K) [] E0 (tCons (tVar 0) (tCons (tC (.int 1000)) tNil))) (gName 7))
  (t_l_content_6 K))
abbrev t_l_content_4 (K : PySem.W.Frag) : TS := (tSeq (tFor (iRng1 (tCons (tOp (uIx K) (tLst (tCons (tCall (sp_l_take K) [] E0 (tCons (tVar 0) (tCons (tOp (uAdd K) (tVar 2) (tC (.int 1))) tNil))) (tCons (tVar 2) (tCons (tCall (sp_l_take K) [] E0 (tCons (tVar 0) (tCons (tC (.int 4)) tNil))) tNil)))) (tCall (sp_l_take K) [] E0 (tCons (tVar 0) (tCons (tC (.int 3)) tNil)))) tNil)) (gName 6) (t_l_content_5 K))
  (tRet (tVar 5)))
abbrev t_l_content_3 (K : PySem.W.Frag) : TS := (tSeq (tAsg (tLst tNil) (gName 5))
  (t_l_content_4 K))
abbrev t_l_content_2 (K : PySem.W.Frag) : TS := (tSeq (tAsg (tLst (tCons (tCall (sp_l_take K) [] E0 (tCons (tVar 0) (tCons (tC (.int 1000)) tNil))) (tCons (tOp uMul (tVar 1) (tCall (sp_l_take K) [] E0 (tCons (tVar 0) (tCons (tOp (uAdd K) (tOp uDiv (tC (.int 999)) (tVar 1)) (tC (.int 1))) tNil)))) (tCons (tCall (sp_l_take K) [] E0 (tCons (tVar 0) (tCons (tC (.int 1000)) tNil))) (tCons (tC (.int 0)) tNil))))) (gName 4))
  (t_l_content_3 K))
abbrev t_l_content_1 (K : PySem.W.Frag) : TS := (tSeq (tAsg (tCall (sp_l_take K) [] E0 (tCons (tVar 0) (tCons (tC (.int 5)) tNil))) (gName 3))
  (t_l_content_2 K))
abbrev t_l_content (K : PySem.W.Frag) : TS := (t_l_content_1 K)
theorem pure_l_content {K : PySem.W.Frag} (vs : List V) (H : Hp) (Q : VK) (E : XK) (h : sp_l_content K vs H Q E) : t_l_content K { nx := fun _ H' => Q .non H', rt := Q } (start ["_law_bag_here", "_law_by", "_law_many", "_law_way", "_law_few", "_law_found", "_law_k", "_law_sign"] vs) H := by
  obtain ⟨Rs, bag, by_, many0, rfl, S, ⟨h30, h48⟩, ⟨hb, hb2⟩, k⟩ := h
  show t_l_content K _ [some (V.ref bag), some (V.int by_), some (V.int many0), none, none, none, none, none] H
  walk_at "go"
  refine u_take S (by decide) fun v1 H1 l1 u1 S1 => ?_
  walk_at "go"
  refine u_take S1 (by decide) fun v2 H2 l2 u2 S2 => ?_
  walk_at "go"
  have d0 : 0 ≤ 999 / by_ := Int.ediv_nonneg (by decide) (by omega)
  have d1 : 999 / by_ * by_ ≤ 999 := Int.ediv_mul_le _ (by omega)
  have d2 : 999 / by_ ≤ 999 := by
    have := Int.mul_le_mul_of_nonneg_left hb d0
    omega
  refine u_take S2 (by omega) fun v3 H3 l3 u3 S3 => ?_
  walk_at "go"
  have f1 : 0 ≤ by_ * v3 := Int.mul_nonneg (by omega) l3
  have f2 : by_ * v3 ≤ 999 := by
    have := Int.mul_le_mul_of_nonneg_right (show v3 ≤ 999 / by_ by omega) (show 0 ≤ by_ by omega)
    rw [Int.mul_comm by_ v3]
    omega
  refine u_take S3 (by decide) fun v4 H4 l4 u4 S4 => ?_
  walk_at "go"
  refine v_lst S4 (by simp) fun fw H5 S5 => ?_
  walk_at "go"
  refine v_lst S5 (by simp) fun fo H6 S6 => ?_
  walk_at "go"
  refine u_take (S6.at 2 rfl) (by omega) fun v5 H7 l5 u5 S7 => ?_
  walk_at "go"
  refine u_take S7 (by decide) fun v6 H8 l6 u6 S8 => ?_
  walk_at "go"
  refine v_lst S8 (by simp) fun me H9 S9 => ?_
  walk_at "go"
  refine u_take (S9.at 1 rfl) (by decide) fun v7 H10 l7 u7 S10 => ?_
  obtain ⟨many, ⟨lm, um⟩, em⟩ := menuI (xs := [V.int v5, V.int many0, V.int v6]) (v := v7) (fun n => 0 ≤ n ∧ n ≤ 48) (by simp only [AllI, and_true]; omega) l7 u7
  refine v_ixL (SqL.of (S10.got 1 rfl)) em ?_
  walk_at "go"
  refine v_itR (by omega) ?_
  have hfew : ∀ i : Int, 0 ≤ i → i < 4 → ∃ n : Int, (0 ≤ n ∧ n ≤ 999) ∧ atI [V.int v2, V.int (by_ * v3), V.int v4, V.int 0] i = some (.int n) := fun i h0 h1 => menuI (fun n => 0 ≤ n ∧ n ≤ 999) (by simp only [AllI, and_true]; omega) h0 h1
  have S11 : M (bagR bag :: pt fo (.lst []) :: pt fw (.lst [V.int v2, V.int (by_ * v3), V.int v4, V.int 0]) :: Rs) H10 := (S10.at 1 rfl).tl
  refine for_W walk_range (fun i σ H' => ∃ (ns : List Int) (a b : Option V), σ = [some (V.ref bag), some (V.int by_), some (V.int many0), some (V.int v1), some (V.ref fw), some (V.ref fo), a, b] ∧ ns.length = i ∧ (∀ n ∈ ns, 0 ≤ n ∧ n ≤ 999) ∧
    M (bagR bag :: pt fo (.lst (ns.map V.int)) :: pt fw (.lst [V.int v2, V.int (by_ * v3), V.int v4, V.int 0]) :: Rs) H') ⟨[], none, none, rfl, rfl, (fun _ h => nomatch h), S11⟩ (fun _ _ _ _ _ => trivial) ?_ ?_
  · rintro i x σ G1 G2 hi ⟨ns, a, b, rfl, hl, hn, S⟩ ⟨rfl, rfl⟩
    walk_at "go"
    refine u_take S (by decide) fun v H1 l u S1 => ?_
    have app : ∀ {n : Int} {a b : Option V} {D : Ends}, 0 ≤ n ∧ n ≤ 999 → (∀ σ H', (∃ (ns : List Int) (a b : Option V), σ = [some (V.ref bag), some (V.int by_), some (V.int many0), some (V.int v1), some (V.ref fw), some (V.ref fo), a, b] ∧ ns.length = i + 1 ∧ (∀ n ∈ ns, 0 ≤ n ∧ n ≤ 999) ∧
        M (bagR bag :: pt fo (.lst (ns.map V.int)) :: pt fw (.lst [V.int v2, V.int (by_ * v3), V.int v4, V.int 0]) :: Rs) H') → D.nx σ H') →
        (tDrop (tBM K "list" rAppend (tVar 5) (tCons (tVar 7) tNil))) D [some (V.ref bag), some (V.int by_), some (V.int many0), some (V.int v1), some (V.ref fw), some (V.ref fo), a, some (V.int n)] H1 := by
      intro n a b D h hD
      walk_at "go"
      refine v_tyL (SqL.of (S1.got 1 rfl)) ?_
      walk_at "go"
      refine v_app S1 1 rfl (by rw [List.length_map]; omega) fun H2 S2 => hD _ _ ⟨ns ++ [n], _, _, rfl, by simp [hl], fun m hm => ?_, by rw [List.map_append]; exact S2⟩
      rcases List.mem_append.mp hm with z | z
      · exact hn m z
      · cases List.mem_singleton.mp z
        exact h
    walk_at "nx"
    walk_at "st"
    refine v_ifD (fun h => ?_) (fun h => ?_)
    · obtain ⟨n, hn, en⟩ := hfew (v % 4) (by omega) (by omega)
      walk_at "st"
      refine v_ixL (SqL.of (S1.got 2 rfl)) en ?_
      walk_at "nx"
      walk_at "st"
      refine v_ifD (fun h => ?_) (fun h => ?_)
      · omega
      refine g_next ?_
      walk_at "nx"
      walk_at "st"
      refine v_ifD (fun h => ?_) (fun h => ?_)
      · omega
      refine g_next ?_
      walk_at "nx"
      exact app (b := none) hn fun σ H h => h
    refine g_next ?_
    walk_at "nx"
    walk_at "st"
    have m0 : 0 ≤ v % by_ := Int.emod_nonneg _ (by omega)
    have m1 : v % by_ ≤ v := by
      have a := Int.mul_nonneg (show 0 ≤ by_ by omega) (Int.ediv_nonneg l (show 0 ≤ by_ by omega))
      have b := Int.emod_def v by_
      omega
    refine v_ifD (fun h => ?_) (fun h => ?_)
    · walk_at "st"
      walk_at "nx"
      walk_at "st"
      refine v_ifD (fun h => ?_) (fun h => ?_)
      · omega
      refine g_next ?_
      walk_at "nx"
      exact app (b := none) (by omega) fun σ H h => h
    refine g_next ?_
    walk_at "nx"
    walk_at "st"
    refine v_ifD (fun h => ?_) (fun h => ?_)
    · have q0 : 0 ≤ v % (999 - by_) := Int.emod_nonneg _ (by omega)
      have q1 : v % (999 - by_) < 999 - by_ := Int.emod_lt_of_pos _ (by omega)
      have q2 : 0 ≤ v % (999 - by_) / by_ := Int.ediv_nonneg q0 (by omega)
      have q3 : v % (999 - by_) / by_ * by_ ≤ v % (999 - by_) := Int.ediv_mul_le _ (by omega)
      have q4 : 0 ≤ v % (by_ - 1) := Int.emod_nonneg _ (by omega)
      have q5 : v % (by_ - 1) < by_ - 1 := Int.emod_lt_of_pos _ (by omega)
      have q6 : 0 ≤ v % (999 - by_) / by_ * by_ := Int.mul_nonneg q2 (by omega)
      have q7 : v % (999 - by_) / by_ ≤ v % (999 - by_) := Int.ediv_le_self _ q0
      walk_at "st"
      walk_at "nx"
      exact app (b := none) (by omega) fun σ H h => h
    refine g_next ?_
    walk_at "nx"
    exact app (b := none) (by omega) fun σ H h => h
  · rintro σ H2 ⟨ns, a, b, rfl, hl, hn, S⟩
    walk_at "go"
    exact k fo ns _ ⟨by omega, by omega, hn⟩ (by walk_at "sub")
theorem u_content {K : PySem.W.Frag} {Rs : List Res} {bag : Addr} {by_ many : Int} {H : Hp} {Q : VK} {E : XK} (S : M (bagR bag :: Rs) H) (hy : 3 ≤ many ∧ many ≤ 48) (hb : 2 ≤ by_ ∧ by_ ≤ 50)
    (k : ∀ p ns H', Signs 0 48 ns → M (bagR bag :: pt p (.lst (ns.map V.int)) :: Rs) H' → Q (.ref p) H') : sp_l_content K ([.ref bag, .int by_, .int many] ++ []) H Q E := ⟨Rs, bag, by_, many, rfl, S, hy, hb, k⟩
/-! ### heads and tails of what is cut -/
def cutF (by_ most : Int) : List Int → List Int → List (List Int)
  | acc, [] => if acc = [] then [] else [acc]
  | acc, n :: r => if endsP by_ most acc n = true then (acc ++ [n]) :: cutF by_ most [] r else cutF by_ most (acc ++ [n]) r
theorem cutF_eq (by_ most : Int) : ∀ (x acc : List Int) (cl : List (List Int)), cutFin (x.foldl (cutStep by_ most) (cl, acc)) = cl ++ cutF by_ most acc x
  | [], acc, cl => by
    show cutFin (cl, acc) = _
    rw [cutF]
    by_cases h : acc = []
    · rw [if_pos h, List.append_nil]
      exact if_pos h
    · rw [if_neg h]
      exact if_neg h
  | n :: r, acc, cl => by
    rw [List.foldl_cons]
    by_cases h : endsP by_ most acc n = true
    · have e : cutStep by_ most (cl, acc) n = (cl ++ [acc ++ [n]], []) := by
        unfold cutStep
        rw [if_pos h]
      have e2 : cutF by_ most acc (n :: r) = (acc ++ [n]) :: cutF by_ most [] r := by
        rw [cutF, if_pos h]
      rw [e, e2, cutF_eq by_ most r]
      simp
    · have e : cutStep by_ most (cl, acc) n = (cl, acc ++ [n]) := by
        unfold cutStep
        rw [if_neg h]
      have e2 : cutF by_ most acc (n :: r) = cutF by_ most (acc ++ [n]) r := by
        rw [cutF, if_neg h]
      rw [e, e2, cutF_eq by_ most r]
theorem cutN_app (by_ most : Int) (f x : List Int) : cutN by_ most (f ++ x) = (cutS by_ most f).1 ++ cutF by_ most (cutS by_ most f).2 x := by
  unfold cutN cutS
  rw [List.foldl_append, ← cutF_eq]
theorem cutN_eq (by_ most : Int) (x : List Int) : cutN by_ most x = cutF by_ most [] x := by
  have := cutN_app by_ most [] x
  simpa [cutS] using this
theorem cutF_first (by_ most : Int) : ∀ (x acc : List Int), x ≠ [] → ∃ p ps, cutF by_ most acc x = p :: ps ∧ acc.length < p.length
  | [], _, h => absurd rfl h
  | n :: r, acc, _ => by
    unfold cutF
    split
    · exact ⟨_, _, rfl, by simp⟩
    · cases r with
      | nil =>
        unfold cutF
        rw [if_neg (by simp)]
        exact ⟨_, _, rfl, by simp⟩
      | cons m t =>
        obtain ⟨p, ps, e, h⟩ := cutF_first by_ most (m :: t) (acc ++ [n]) (by simp)
        refine ⟨p, ps, e, ?_⟩
        simp at h
        omega
def endedL (whole many : Int) : Int → List (List Int) → List (List Int)
  | _, [] => []
  | at_, l :: r => if at_ + (l.length : Int) ≤ many ∧ at_ + (l.length : Int) < whole then l :: endedL whole many (at_ + (l.length : Int)) r else endedL whole many (at_ + (l.length : Int)) r
theorem ended_none {whole many : Int} : ∀ (ls : List (List Int)) (at_ : Int), (many < at_ ∨ whole ≤ at_) → endedL whole many at_ ls = []
  | [], _, _ => rfl
  | l :: r, at_, h => by
    unfold endedL
    rw [if_neg (by omega)]
    exact ended_none r _ (by omega)
theorem ended_pre {whole many : Int} (more : List (List Int)) : ∀ (cl : List (List Int)) (at_ : Int), (∀ p ps, more = p :: ps → many < at_ + (cl.flatten.length : Int) + (p.length : Int) ∨ whole ≤ at_ + (cl.flatten.length : Int) + (p.length : Int)) →
    ∃ j, j ≤ cl.length ∧ endedL whole many at_ (cl ++ more) = cl.take j
  | [], at_, h => by
    refine ⟨0, Nat.le_refl _, ?_⟩
    cases more with
    | nil => rfl
    | cons p ps =>
      have := h p ps rfl
      simp only [List.flatten_nil, List.length_nil] at this
      rw [List.nil_append]
      unfold endedL
      rw [if_neg (by omega)]
      exact ended_none ps _ (by omega)
  | l :: r, at_, h => by
    rw [List.cons_append]
    unfold endedL
    split
    · obtain ⟨j, h1, h2⟩ := ended_pre (whole := whole) (many := many) more r (at_ + (l.length : Int)) fun p ps e => by
        have := h p ps e
        simp only [List.flatten_cons, List.length_append] at this
        omega
      exact ⟨j + 1, by simpa using h1, by rw [h2]; rfl⟩
    · exact ⟨0, Nat.zero_le _, ended_none _ _ (by omega)⟩
/-- those that end within what both have in front stand first in both -/
theorem heads_same {by_ most : Int} (hm : 1 ≤ most) (f x y : List Int) : let hs := endedL ((f ++ x).length : Nat) (f.length : Nat) 0 (cutN by_ most (f ++ x)); (cutN by_ most (f ++ y)).take hs.length = hs := by
  have ok := (cutS_ok (by_ := by_) hm f).join
  rw [cutN_app, cutN_app]
  generalize cutS by_ most f = s at ok
  obtain ⟨cl, acc⟩ := s
  have hl : cl.flatten.length + acc.length = f.length := by
    rw [← ok, List.length_append]
  obtain ⟨j, h1, h2⟩ := ended_pre (whole := ((f ++ x).length : Nat)) (many := (f.length : Nat)) (cutF by_ most acc x) cl 0 fun p ps e => by
    rw [List.length_append]
    cases x with
    | nil =>
      unfold cutF at e
      split at e
      · cases e
      · cases e
        right
        simp only [List.length_nil]
        omega
    | cons n r =>
      obtain ⟨p2, ps2, e2, h3⟩ := cutF_first by_ most (n :: r) acc (by simp)
      rw [e2] at e
      cases e
      left
      omega
  simp only
  rw [h2, List.length_take, Nat.min_eq_left h1, List.take_append_of_le_length h1]
/-- behind a sign that the mark divides all is cut anew -/
theorem tails_same {by_ most : Int} (f : List Int) (d : Int) (r : List Int) (hd : d % by_ = 0) : ∃ cl, cutN by_ most (f ++ d :: r) = cl ++ cutN by_ most r := by
  have e : f ++ d :: r = (f ++ [d]) ++ r := by simp
  rw [e, cutN_app, cutS_snoc, cutN_eq by_ most r]
  have e2 : (cutStep by_ most (cutS by_ most f) d).2 = [] := by
    unfold cutStep
    rw [if_pos (by unfold endsP; rw [decide_eq_true hd]; rfl)]
  rw [e2]
  exact ⟨_, rfl⟩
theorem cutI_to (ns : List Int) {k : Int} (h : 0 ≤ k) : cutV (ns.map V.int) none (some k) = (ns.take k.toNat).map V.int := by
  obtain ⟨n, rfl⟩ : ∃ n : Nat, k = n := ⟨k.toNat, by omega⟩
  rw [cut_to, Int.toNat_natCast, List.map_take]
theorem cutI_from (ns : List Int) {k : Int} (h : 0 ≤ k) : cutV (ns.map V.int) (some k) none = (ns.drop k.toNat).map V.int := by
  obtain ⟨n, rfl⟩ : ∃ n : Nat, k = n := ⟨k.toNat, by omega⟩
  rw [cut_from, Int.toNat_natCast, List.map_drop]
theorem cutI_mid (ns : List Int) {a b : Int} (h : 0 ≤ a) (h2 : 0 ≤ b) : cutV (ns.map V.int) (some a) (some b) = ((ns.drop a.toNat).take (b.toNat - a.toNat)).map V.int := by
  obtain ⟨n, rfl⟩ : ∃ n : Nat, a = n := ⟨a.toNat, by omega⟩
  obtain ⟨m, rfl⟩ : ∃ n : Nat, b = n := ⟨b.toNat, by omega⟩
  rw [cut_mid, Int.toNat_natCast, Int.toNat_natCast, List.map_take, List.map_drop]
theorem v_slI {K : PySem.W.Frag} {Rs : List Res} {H : Hp} {Q : VK} {a : Addr} {ns ms : List Int} {lo hi : Option Int} (S : M Rs H) (h : SqL K H a (ns.map V.int)) (e : cutV (ns.map V.int) lo hi = ms.map V.int) (k : ∀ p H', M (pt p (.lst (ms.map V.int)) :: Rs) H' → Q (.ref p) H') : uSl K (.ref a) lo hi H Q :=
  v_slL S h fun p H' S' => k p H' (by rw [← e]; exact S')
def sp_l_changed (K : PySem.W.Frag) : Sp := fun vs H Q _ => ∃ (Rs : List Res) (bag a : Addr) (by_ : Int) (ns : List Int), vs = [.ref bag, .ref a, .int by_] ∧ M (bagR bag :: Rs) H ∧ Ent Rs (fun H => H a = some (.lst (ns.map V.int))) ∧ (2 ≤ by_ ∧ by_ ≤ 50) ∧ Signs 0 48 ns ∧
  ∀ p f o n e F O N E H', Signs 0 48 (F ++ O ++ E) → Signs 0 48 (F ++ N ++ E) → M (bagR bag :: fz p (.tup [.ref f, .ref o, .ref n, .ref e]) :: pt f (.lst (F.map V.int)) :: pt o (.lst (O.map V.int)) :: pt n (.lst (N.map V.int)) :: pt e (.lst (E.map V.int)) :: Rs) H' → Q (.ref p) H'
def sp_l_ended (K : PySem.W.Frag) : Sp := fun vs H Q _ => ∃ (Rs : List Res) (v : V) (ls : List (List Int)) (whole many : Int), vs = [v, .int whole, .int many] ∧ M (dt K v (dL ls) :: Rs) H ∧ ls.length ≤ 1000 ∧
  ∀ p us H', M (pt p (.lst us) :: dtA K us ((endedL whole many 0 ls).map dI) :: Rs) H' → Q (.ref p) H'
def sp_l_joined (K : PySem.W.Frag) : Sp := fun vs H Q _ => ∃ (Rs : List Res) (v : V) (ls : List (List Int)), vs = [v] ∧ M (dt K v (dL ls) :: Rs) H ∧ ls.flatten.length ≤ 1000 ∧
  ∀ p H', M (pt p (.lst (ls.flatten.map V.int)) :: Rs) H' → Q (.ref p) H'
theorem len_l_changed {K : PySem.W.Frag} (vs : List V) (H : Hp) (Q : VK) (E : XK) (h : sp_l_changed K vs H Q E) : vs.length = 3 := by
  obtain ⟨Rs, a, b, m, ns, rfl, _⟩ := h
  rfl
theorem len_l_ended {K : PySem.W.Frag} (vs : List V) (H : Hp) (Q : VK) (E : XK) (h : sp_l_ended K vs H Q E) : vs.length = 3 := by
  obtain ⟨Rs, a, b, m, ns, rfl, _⟩ := h
  rfl
theorem len_l_joined {K : PySem.W.Frag} (vs : List V) (H : Hp) (Q : VK) (E : XK) (h : sp_l_joined K vs H Q E) : vs.length = 1 := by
  obtain ⟨Rs, a, b, rfl, _⟩ := h
  rfl
abbrev t_l_changed_4 (K : PySem.W.Frag) : TS := (tSeq (tAsg (tOp (uIx K) (tLst (tCons (tLst tNil) (tCons (tCall (sp_l_content K) [] E0 (tCons (tVar 0) (tCons (tVar 2) (tCons (tC (.int 6)) tNil)))) (tCons (tOp (uAdd K) (tSl (uSl K) (tVar 1) (tPart (tVar 3)) (tPart (tVar 4))) (tSl (uSl K) (tVar 1) (tPart (tVar 3)) (tPart (tVar 4)))) (tCons (tLst (tCons (tVar 2) tNil)) (tCons (tSl (uSl K) (tSl (uSl K) (tVar 1) (tPart (tVar 3)) (tPart (tVar 4))) (tPart (tC (.int 1))) tNoPart) tNil)))))) (tCall (sp_l_take K) [] E0 (tCons (tVar 0) (tCons (tC (.int 5)) tNil)))) (gName 5))
  (tRet (tTup (tCons (tVar 6) (tCons (tSl (uSl K) (tVar 1) (tPart (tVar 3)) (tPart (tVar 4))) (tCons (tSl (uSl K) (tVar 5) tNoPart (tPart (tOp uSub (tOp uSub (tC (.int 48)) (tCB (uLen K) (tCons (tVar 6) tNil))) (tCB (uLen K) (tCons (tVar 7) tNil))))) (tCons (tVar 7) tNil)))))))
abbrev t_l_changed_3 (K : PySem.W.Frag) : TS := (tSeq (tPar 6 7 (tCons (tSl (uSl K) (tVar 1) tNoPart (tPart (tVar 3))) (tCons (tSl (uSl K) (tVar 1) (tPart (tVar 4)) tNoPart) tNil)))
  (t_l_changed_4 K))
abbrev t_l_changed_2 (K : PySem.W.Frag) : TS := (tSeq (tAsg (tOp (uAdd K) (tVar 3) (tCall (sp_l_take K) [] E0 (tCons (tVar 0) (tCons (tOp (uAdd K) (tOp uSub (tCB (uLen K) (tCons (tVar 1) tNil)) (tVar 3)) (tC (.int 1))) tNil)))) (gName 4))
  (t_l_changed_3 K))
abbrev t_l_changed_1 (K : PySem.W.Frag) : TS := (tSeq (tAsg (tCall (sp_l_take K) [] E0 (tCons (tVar 0) (tCons (tOp (uAdd K) (tCB (uLen K) (tCons (tVar 1) tNil)) (tC (.int 1))) tNil))) (gName 3))
  (t_l_changed_2 K))
abbrev t_l_changed (K : PySem.W.Frag) : TS := (t_l_changed_1 K)
abbrev t_l_ended_4 (K : PySem.W.Frag) : TS := (tIfS (tAnd (tTest (tOp uLe (tVar 5) (tVar 2))) (tTest (tOp uLt (tVar 5) (tVar 1)))) (tDrop (tBM K "list" rAppend (tVar 4) (tCons (tVar 3) tNil))) tNext)
abbrev t_l_ended_3 (K : PySem.W.Frag) : TS := (tSeq (tAug 5 (tCB (uLen K) (tCons (tVar 3) tNil)) iAdd)
  (t_l_ended_4 K))
abbrev t_l_ended_2 (K : PySem.W.Frag) : TS := (tSeq (tFor (iList K (tVar 0)) (gName 3) (t_l_ended_3 K))
  (tRet (tVar 4)))
abbrev t_l_ended_1 (K : PySem.W.Frag) : TS := (tSeq (tPar 4 5 (tCons (tLst tNil) (tCons (tC (.int 0)) tNil)))
  (t_l_ended_2 K))
abbrev t_l_ended (K : PySem.W.Frag) : TS := (t_l_ended_1 K)
abbrev t_l_joined_2 (K : PySem.W.Frag) : TS := (tSeq (tFor (iList K (tVar 0)) (gName 2) (tAsg (tOp (uAdd K) (tVar 1) (tVar 2)) (gName 1)))
  (tRet (tVar 1)))
abbrev t_l_joined_1 (K : PySem.W.Frag) : TS := (tSeq (tAsg (tLst tNil) (gName 1))
  (t_l_joined_2 K))
abbrev t_l_joined (K : PySem.W.Frag) : TS := (t_l_joined_1 K)
theorem ended_snoc {whole many : Int} (x : List Int) : ∀ (ls : List (List Int)) (at_ : Int), endedL whole many at_ (ls ++ [x]) = endedL whole many at_ ls ++ (if at_ + (ls.flatten.length : Int) + (x.length : Int) ≤ many ∧ at_ + (ls.flatten.length : Int) + (x.length : Int) < whole then [x] else [])
  | [], at_ => by
    simp [endedL]
  | l :: r, at_ => by
    rw [List.cons_append, endedL, endedL, ended_snoc x r]
    have e : at_ + ((l :: r).flatten.length : Int) = at_ + (l.length : Int) + (r.flatten.length : Int) := by
      rw [List.flatten_cons, List.length_append]
      omega
    rw [e]
    split
    · rfl
    · rfl
theorem map_at {α β : Type} {f : α → β} {l : List α} {i : Nat} {d : β} (h : (l.map f)[i]? = some d) : ∃ x, l[i]? = some x ∧ d = f x := by
  rw [List.getElem?_map] at h
  cases e : l[i]? with
  | none =>
    rw [e] at h
    cases h
  | some q =>
    rw [e] at h
    exact ⟨q, rfl, (Option.some.inj h).symm⟩
theorem pure_l_ended {K : PySem.W.Frag} (vs : List V) (H : Hp) (Q : VK) (E : XK) (h : sp_l_ended K vs H Q E) : t_l_ended K { nx := fun _ H' => Q .non H', rt := Q } (start ["_law_pieces", "_law_whole", "_law_many", "_law_piece", "_law_found", "_law_at"] vs) H := by
  obtain ⟨Rs, v, ls, whole, many, rfl, S0, hl, k⟩ := h
  obtain ⟨q, vs, rfl, S⟩ := S0.openL
  clear S0
  show t_l_ended K _ [some (V.ref q), some (V.int whole), some (V.int many), none, none, none] H
  walk_at "go"
  refine v_lst S (by simp) fun fo H1 S1 => ?_
  walk_at "go"
  refine v_itL (S1.gotR 1 rfl) ?_
  refine for_W walk_list (fun i σ H' => ∃ (us : List V) (x : Option V), σ = [some (V.ref q), some (V.int whole), some (V.int many), x, some (V.ref fo), some (V.int (((ls.take i).flatten.length : Nat) : Int))] ∧ us.length ≤ i ∧
    M (pt fo (.lst us) :: dtA K us ((endedL whole many 0 (ls.take i)).map dI) :: rdL K q vs :: dtA K vs (ls.map dI) :: Rs) H') ⟨[], none, rfl, Nat.le_refl _, by
      have z := S1.dtA0 (K := K)
      exact z.perm (.swap _ _ _)⟩ (fun i σ H' _ ⟨_, _, _, _, S⟩ => S.gotR 2 rfl) ?_ ?_
  · rintro i x σ H2 H3 hi ⟨us, y, rfl, hus, S⟩ ⟨rfl, hx⟩
    obtain ⟨d, hd, S2⟩ := (S.at 3 rfl).dtAt hx
    obtain ⟨l, hl2, rfl⟩ := map_at hd
    obtain ⟨p, rfl, sq⟩ := Dp.openI S2.hdD
    have hil : i < ls.length := (List.getElem?_eq_some_iff.mp hl2).1
    walk_at "go"
    rw [List.length_map]
    have ef : (((ls.take (i + 1)).flatten.length : Nat) : Int) = (((ls.take i).flatten.length : Nat) : Int) + (l.length : Int) := by
      rw [take_more hl2, List.flatten_append, List.length_append]
      simp
    have no : ¬ ((0 : Int) + (((ls.take i).flatten.length : Nat) : Int) + (l.length : Int) ≤ many ∧ (0 : Int) + (((ls.take i).flatten.length : Nat) : Int) + (l.length : Int) < whole) →
        ∃ (us : List V) (x : Option V), [some (V.ref q), some (V.int whole), some (V.int many), some (V.ref p), some (V.ref fo), some (V.int ((((ls.take i).flatten.length : Nat) : Int) + (l.length : Int)))] = [some (V.ref q), some (V.int whole), some (V.int many), x, some (V.ref fo), some (V.int (((ls.take (i + 1)).flatten.length : Nat) : Int))] ∧ us.length ≤ i + 1 ∧
          M (pt fo (.lst us) :: dtA K us ((endedL whole many 0 (ls.take (i + 1))).map dI) :: rdL K q vs :: dtA K vs (ls.map dI) :: Rs) H3 := by
      intro hn
      refine ⟨us, some (V.ref p), by rw [ef], by omega, ?_⟩
      rw [take_more hl2, ended_snoc, if_neg hn, List.append_nil]
      exact S
    refine v_ifD (fun h => ?_) (fun h => ?_)
    · walk_at "ev"
      refine v_ifD (fun h2 => ?_) (fun h2 => ?_)
      · walk_at "go"
        refine v_tyL (SqL.of (S.got 0 rfl)) ?_
        walk_at "go"
        refine v_app S 0 rfl (by omega) fun H4 S4 => ?_
        refine ⟨us ++ [V.ref p], _, by rw [ef]; rfl, by simp; omega, ?_⟩
        rw [take_more hl2, ended_snoc, if_pos (by omega), List.map_append]
        obtain ⟨d2, hd2, S5⟩ := (S4.at 3 rfl).dtAt hx
        rw [hd] at hd2
        cases hd2
        have S6 := (show M (dt K (.ref p) (dI l) :: dtA K us ((endedL whole many 0 (ls.take i)).map dI) :: pt fo (.lst (us ++ [V.ref p])) :: rdL K q vs :: dtA K vs (ls.map dI) :: Rs) H4 by walk_at "sub").dtA1
        exact S6.perm (.swap _ _ _)
      · walk_at "go"
        exact no (by omega)
    · walk_at "go"
      exact no (by omega)
  · rintro σ H2 ⟨us, y, rfl, hus, S⟩
    have e : vs.length = ls.length := by
      have := DpAll.length (S.gotA 3 rfl)
      rw [List.length_map] at this
      exact this
    rw [e, List.take_length] at S
    walk_at "go"
    exact k fo us H2 (by walk_at "sub")
theorem pure_l_joined {K : PySem.W.Frag} (vs : List V) (H : Hp) (Q : VK) (E : XK) (h : sp_l_joined K vs H Q E) : t_l_joined K { nx := fun _ H' => Q .non H', rt := Q } (start ["_law_pieces", "_law_found", "_law_piece"] vs) H := by
  obtain ⟨Rs, v, ls, rfl, S0, hl, k⟩ := h
  obtain ⟨q, vs, rfl, S⟩ := S0.openL
  clear S0
  show t_l_joined K _ [some (V.ref q), none, none] H
  walk_at "go"
  refine v_lst S (by simp) fun fo H1 S1 => ?_
  walk_at "go"
  refine v_itL (S1.gotR 1 rfl) ?_
  refine for_W walk_list (fun i σ H' => ∃ (fo : Addr) (x : Option V), σ = [some (V.ref q), some (V.ref fo), x] ∧
    M (pt fo (.lst ((ls.take i).flatten.map V.int)) :: rdL K q vs :: dtA K vs (ls.map dI) :: Rs) H') ⟨fo, none, rfl, S1⟩ (fun i σ H' _ ⟨_, _, _, S⟩ => S.gotR 1 rfl) ?_ ?_
  · rintro i x σ H2 H3 hi ⟨fo, y, rfl, S⟩ ⟨rfl, hx⟩
    obtain ⟨d, hd, S2⟩ := (S.at 2 rfl).dtAt hx
    obtain ⟨l, hl2, rfl⟩ := map_at hd
    obtain ⟨p, rfl, sq⟩ := Dp.openI S2.hdD
    have e : (ls.take (i + 1)).flatten = (ls.take i).flatten ++ l := by
      rw [take_more hl2, List.flatten_append]
      simp
    have hle : (ls.take (i + 1)).flatten.length ≤ 1000 := by
      refine Nat.le_trans ?_ hl
      conv => rhs; rw [← List.take_append_drop (i + 1) ls, List.flatten_append, List.length_append]
      omega
    rw [e, List.length_append] at hle
    walk_at "go"
    refine v_catS S (SqL.of (S.got 0 rfl)) sq (by rw [List.length_map, List.length_map]; omega) fun f2 H4 S4 => ?_
    refine ⟨f2, _, rfl, ?_⟩
    rw [e, List.map_append]
    walk_at "sub"
  · rintro σ H2 ⟨fo, y, rfl, S⟩
    have e : vs.length = ls.length := by
      have := DpAll.length (S.gotA 2 rfl)
      rw [List.length_map] at this
      exact this
    rw [e, List.take_length] at S
    walk_at "go"
    exact k fo H2 (by walk_at "sub")
theorem three_parts (ns : List Int) (a b : Nat) (h : a ≤ b) : ns.take a ++ (ns.drop a).take (b - a) ++ ns.drop b = ns := by
  have e : ns.drop b = (ns.drop a).drop (b - a) := by
    rw [List.drop_drop]
    congr 1
    omega
  rw [e, List.append_assoc, List.take_append_drop, List.take_append_drop]
theorem pure_l_changed {K : PySem.W.Frag} (vs : List V) (H : Hp) (Q : VK) (E : XK) (h : sp_l_changed K vs H Q E) : t_l_changed K { nx := fun _ H' => Q .non H', rt := Q } (start ["_law_bag_here", "_law_content_here", "_law_by", "_law_a", "_law_b", "_law_new", "_law_front", "_law_end"] vs) H := by
  obtain ⟨Rs, bag, a, by_, ns, rfl, S, hS, hb, sg, k⟩ := h
  have hl := sg.hi
  show t_l_changed K _ [some (V.ref bag), some (V.ref a), some (V.int by_), none, none, none, none, none] H
  walk_at "go"
  refine v_lenL (SqL.of (hS _ S.tl)) ?_
  rw [List.length_map]
  walk_at "go"
  refine u_take S (by omega) fun v1 H1 l1 u1 S1 => ?_
  walk_at "go"
  refine v_lenL (SqL.of (hS _ S1.tl)) ?_
  rw [List.length_map]
  walk_at "go"
  refine u_take S1 (by omega) fun v2 H2 l2 u2 S2 => ?_
  walk_at "go"
  refine v_slI S2 (SqL.of (hS _ S2.tl)) (cutI_to ns l1) fun f H3 S3 => ?_
  walk_at "go"
  refine v_slI S3 (SqL.of (hS _ S3.tl.tl)) (cutI_from ns (by omega)) fun e H4 S4 => ?_
  walk_at "go"
  refine v_lst S4 (by simp) fun c0 H5 S5 => ?_
  walk_at "go"
  refine u_content (S5.at 3 rfl) (by decide) hb fun c1 n1 H6 sg1 S6 => ?_
  walk_at "go"
  refine v_slI S6 (SqL.of (hS _ S6.tl.tl.tl.tl.tl)) (cutI_mid ns l1 (by omega)) fun o1 H7 S7 => ?_
  walk_at "go"
  refine v_slI S7 (SqL.of (hS _ S7.tl.tl.tl.tl.tl.tl)) (cutI_mid ns l1 (by omega)) fun o2 H8 S8 => ?_
  have hO : ((ns.drop v1.toNat).take ((v1 + v2).toNat - v1.toNat)).length ≤ 48 := by
    rw [List.length_take, List.length_drop]
    omega
  refine v_cat S8 (S8.got 1 rfl) (S8.got 0 rfl) (by rw [List.length_map]; omega) fun c2 H9 S9 => ?_
  walk_at "go"
  refine v_lst S9 (by simp) fun c3 H10 S10 => ?_
  walk_at "go"
  refine v_slI S10 (SqL.of (hS _ S10.tl.tl.tl.tl.tl.tl.tl.tl.tl)) (cutI_mid ns l1 (by omega)) fun o3 H11 S11 => ?_
  walk_at "go"
  refine v_slI S11 (SqL.of (S11.got 0 rfl)) (cutI_from _ (by decide)) fun c4 H12 S12 => ?_
  walk_at "go"
  refine v_lst S12 (by simp) fun me H13 S13 => ?_
  have S14 : M (bagR bag :: pt me (.lst [V.ref c0, V.ref c1, V.ref c2, V.ref c3, V.ref c4]) :: pt c0 (.lst (([] : List Int).map V.int)) :: pt c1 (.lst (n1.map V.int)) :: pt c2 (.lst (((ns.drop v1.toNat).take ((v1 + v2).toNat - v1.toNat)).map V.int ++ ((ns.drop v1.toNat).take ((v1 + v2).toNat - v1.toNat)).map V.int)) :: pt c3 (.lst ([by_].map V.int)) ::
      pt c4 (.lst ((((ns.drop v1.toNat).take ((v1 + v2).toNat - v1.toNat)).drop (1 : Int).toNat).map V.int)) :: pt f (.lst ((ns.take v1.toNat).map V.int)) :: pt e (.lst ((ns.drop (v1 + v2).toNat).map V.int)) :: Rs) H13 := by walk_at "sub"
  clear S S1 S2 S3 S4 S5 S6 S7 S8 S9 S10 S11 S12 S13
  rw [← List.map_append] at S14
  have h3 := three_parts ns v1.toNat (v1 + v2).toNat (by omega)
  have hF : (ns.take v1.toNat).length ≤ v1.toNat := by rw [List.length_take]; omega
  have hE : (ns.drop (v1 + v2).toNat).length = ns.length - (v1 + v2).toNat := List.length_drop
  have sO : ∀ n ∈ (ns.drop v1.toNat).take ((v1 + v2).toNat - v1.toNat), 0 ≤ n ∧ n ≤ 999 := fun n hn => sg.sg n (List.mem_of_mem_drop (List.mem_of_mem_take hn))
  have sF : ∀ n ∈ ns.take v1.toNat, 0 ≤ n ∧ n ≤ 999 := fun n hn => sg.sg n (List.mem_of_mem_take hn)
  have sE : ∀ n ∈ ns.drop (v1 + v2).toNat, 0 ≤ n ∧ n ≤ 999 := fun n hn => sg.sg n (List.mem_of_mem_drop hn)
  generalize hOe : (ns.drop v1.toNat).take ((v1 + v2).toNat - v1.toNat) = O at S14 h3 sO hO
  generalize ns.take v1.toNat = F at S14 h3 hF sF
  generalize hEe : ns.drop (v1 + v2).toNat = E at S14 h3 hE sE
  walk_at "go"
  refine u_take S14 (by decide) fun v3 H14 l3 u3 S15 => ?_
  obtain ⟨c, ms, hc, hg, hs⟩ : ∃ (c : Addr) (ms : List Int), atI [V.ref c0, V.ref c1, V.ref c2, V.ref c3, V.ref c4] v3 = some (.ref c) ∧ Ent (bagR bag :: pt me (.lst [V.ref c0, V.ref c1, V.ref c2, V.ref c3, V.ref c4]) :: pt c0 (.lst (([] : List Int).map V.int)) :: pt c1 (.lst (n1.map V.int)) :: pt c2 (.lst ((O ++ O).map V.int)) :: pt c3 (.lst ([by_].map V.int)) ::
      pt c4 (.lst ((O.drop (1 : Int).toNat).map V.int)) :: pt f (.lst (F.map V.int)) :: pt e (.lst (E.map V.int)) :: Rs) (fun H => H c = some (.lst (ms.map V.int))) ∧ ∀ n ∈ ms, 0 ≤ n ∧ n ≤ 999 := by
    have c : v3 = 0 ∨ v3 = 1 ∨ v3 = 2 ∨ v3 = 3 ∨ v3 = 4 := by omega
    rcases c with rfl | rfl | rfl | rfl | rfl
    · exact ⟨c0, [], rfl, fun H S => S.got 2 rfl, fun _ h => nomatch h⟩
    · exact ⟨c1, n1, rfl, fun H S => S.got 3 rfl, sg1.sg⟩
    · exact ⟨c2, O ++ O, rfl, fun H S => S.got 4 rfl, fun n h => (List.mem_append.mp h).elim (sO n) (sO n)⟩
    · exact ⟨c3, [by_], rfl, fun H S => S.got 5 rfl, fun n h => by cases List.mem_singleton.mp h; omega⟩
    · exact ⟨c4, _, rfl, fun H S => S.got 6 rfl, fun n h => sO n (List.mem_of_mem_drop h)⟩
  refine v_ixL (SqL.of (S15.got 1 rfl)) hc ?_
  walk_at "go"
  refine v_slI (ms := O) S15 (SqL.of (hS _ S15.tl.tl.tl.tl.tl.tl.tl.tl.tl)) (by rw [cutI_mid ns l1 (by omega), hOe]) fun o H15 S16 => ?_
  walk_at "go"
  rw [List.length_map]
  refine v_lenL (SqL.of (S16.got 9 rfl)) ?_
  rw [List.length_map]
  walk_at "go"
  have hFE : F.length + E.length ≤ 48 := by
    have := congrArg List.length h3
    rw [List.length_append, List.length_append] at this
    omega
  refine v_slI S16 (SqL.of (hg _ S16.tl)) (cutI_to ms (by omega)) fun n H16 S17 => ?_
  walk_at "go"
  refine v_tup S17 (by simp) fun p H17 S18 => ?_
  have S19 := S18.fix
  refine k p f o n e F O (ms.take (48 - (F.length : Int) - (E.length : Int)).toNat) E H17 (by rw [h3]; exact sg) ⟨Nat.zero_le _, ?_, fun m hm => ?_⟩ (by walk_at "sub")
  · rw [List.length_append, List.length_append, List.length_take]
    omega
  · rcases List.mem_append.mp hm with h | h
    · rcases List.mem_append.mp h with h | h
      · exact sF m h
      · exact hs m (List.mem_of_mem_take h)
    · exact sE m h
theorem u_bag {K : PySem.W.Frag} {Rs : List Res} {H : Hp} {a : Addr} {ns : List Int} {Q : VK} {E : XK} (S : M Rs H) (h : Ent Rs (fun H => SqL K H a (ns.map V.int))) (hl : ns.length ≤ 63) (k : ∀ bag H', M (bagR bag :: Rs) H' → Q (.ref bag) H') :
    sp_l_bag K ([.ref a] ++ []) H Q E := ⟨Rs, a, ns, rfl, S, h, hl, k⟩
def sp_law (K : PySem.W.Frag) : Sp := fun vs H Q _ => ∃ (a : Addr) (ns : List Int), vs = [.ref a] ∧ SqL K H a (ns.map V.int) ∧ ns.length ≤ 63 ∧ ∀ H', Q (.bl true) H'
theorem len_law {K : PySem.W.Frag} (vs : List V) (H : Hp) (Q : VK) (E : XK) (h : sp_law K vs H Q E) : vs.length = 1 := by
  obtain ⟨x, y, rfl, _⟩ := h
  rfl
theorem law_start (K : PySem.W.Frag) (H : Hp) (a : Addr) (ns : List Int) (hl : ns.length ≤ 63) (hS : SqL K H a (ns.map V.int)) : sp_law K [.ref a] H (fun v _ => v = .bl true) fun _ _ _ => False := ⟨a, ns, rfl, hS, hl, fun _ => rfl⟩
abbrev t_law_13 (K : PySem.W.Frag) : TS := (tIfS (tNot (tB (tCall (sp_l_alike K) [] E0 (tCons (tSl (uSl K) (tOp (uIx K) (tVar 7) (tOp uSub (tC (.int 1)) (tVar 8))) tNoPart (tPart (tCB (uLen K) (tCons (tVar 14) tNil)))) (tCons (tVar 14) tNil))))) (tRet (tC (.bl false))) tNext)
abbrev t_law_12 (K : PySem.W.Frag) : TS := (tSeq (tAsg (tCall (sp_l_ended K) [] E0 (tCons (tOp (uIx K) (tVar 7) (tVar 8)) (tCons (tCB (uLen K) (tCons (tOp (uIx K) (tVar 6) (tVar 8)) tNil)) (tCons (tCB (uLen K) (tCons (tVar 10) tNil)) tNil)))) (gName 14))
  (t_law_13 K))
abbrev t_law_10 (K : PySem.W.Frag) : TS := (tSeq (tIfS (tOr (tNot (tB (tCall (sp_l_alike K) [] E0 (tCons (tCall (sp_l_joined K) [] E0 (tCons (tOp (uIx K) (tVar 7) (tVar 8)) tNil)) (tCons (tOp (uIx K) (tVar 6) (tVar 8)) tNil))))) (tTest (tOp (uIn K) (tLst tNil) (tOp (uIx K) (tVar 7) (tVar 8))))) (tRet (tC (.bl false))) tNext)
  (t_law_12 K))
abbrev t_law_19 (K : PySem.W.Frag) : TS := (tIfS (tNot (tB (tCall (sp_l_alike K) [] E0 (tCons (tSl (uSl K) (tVar 16) (tPart (tOp uSub (tCB (uLen K) (tCons (tVar 16) tNil)) (tCB (uLen K) (tCons (tVar 15) tNil)))) tNoPart) (tCons (tVar 15) tNil))))) (tRet (tC (.bl false))) tNext)
abbrev t_law_18 (K : PySem.W.Frag) : TS := (tFor (iList K (tVar 7)) (gName 16) (t_law_19 K))
abbrev t_law_17 (K : PySem.W.Frag) : TS := (tSeq (tAsg (tCallN 1 2 (sp_cut K) (fun vs zs => vs ++ (zs ++ [])) E0 (tCons (tSl (uSl K) (tVar 13) (tPart (tOp (uAdd K) (tOp (uIx K) (tVar 9) (tC (.int 0))) (tC (.int 1)))) tNoPart) tNil) (tCons (tVar 2) (tCons (tVar 3) tNil))) (gName 15))
  (t_law_18 K))
abbrev t_law_16 (K : PySem.W.Frag) : TS := (tIfS (tTest (tOp (uNe K) (tVar 9) (tLst tNil))) (t_law_17 K) tNext)
abbrev t_law_15 (K : PySem.W.Frag) : TS := (tSeq (tAsg (tLc (iRng1 (tCons (tCB (uLen K) (tCons (tVar 13) tNil)) tNil)) (gName 8) (tTest (tOp (uEq K) (tOp uMod (tOp (uIx K) (tVar 13) (tVar 8)) (tVar 2)) (tC (.int 0)))) (tVar 8) [8]) (gName 9))
  (t_law_16 K))
abbrev t_law_9 (K : PySem.W.Frag) : TS := (tSeq (tFor (iRng1 (tCons (tC (.int 2)) tNil)) (gName 8) (t_law_10 K))
  (t_law_15 K))
abbrev t_law_8 (K : PySem.W.Frag) : TS := (tSeq (tAsg (tLc (iList K (tVar 6)) (gName 17) tYes (tCallN 1 2 (sp_cut K) (fun vs zs => vs ++ (zs ++ [])) E0 (tCons (tCB (rListOf K) (tCons (tVar 17) tNil)) tNil) (tCons (tVar 2) (tCons (tVar 3) tNil))) [17]) (gName 7))
  (t_law_9 K))
abbrev t_law_7 (K : PySem.W.Frag) : TS := (tSeq (tAsg (tLst (tCons (tOp (uAdd K) (tOp (uAdd K) (tVar 10) (tVar 11)) (tVar 13)) (tCons (tOp (uAdd K) (tOp (uAdd K) (tVar 10) (tVar 12)) (tVar 13)) tNil))) (gName 6))
  (t_law_8 K))
abbrev t_law_6 (K : PySem.W.Frag) : TS := (tSeq (tAsg (tCall (sp_l_changed K) [] E0 (tCons (tVar 1) (tCons (tVar 5) (tCons (tVar 2) tNil)))) (gTup K 4 (gCons (gName 10) (gCons (gName 11) (gCons (gName 12) (gCons (gName 13) gNil))))))
  (t_law_7 K))
abbrev t_law_5 (K : PySem.W.Frag) : TS := (tSeq (tAsg (tCall (sp_l_content K) [] E0 (tCons (tVar 1) (tCons (tVar 2) (tCons (tC (.int 48)) tNil)))) (gName 5))
  (t_law_6 K))
abbrev t_law_4 (K : PySem.W.Frag) : TS := (tSeq (tFor (iRng1 (tCons (tC (.int 4)) tNil)) (gName 4) (t_law_5 K))
  (tRet (tC (.bl true))))
abbrev t_law_3 (K : PySem.W.Frag) : TS := (tSeq (tAsg (tOp (uIx K) (tLst (tCons (tC (.int 1)) (tCons (tC (.int 16)) (tCons (tC (.int 8)) (tCons (tOp (uAdd K) (tC (.int 1)) (tCall (sp_l_take K) [] E0 (tCons (tVar 1) (tCons (tC (.int 16)) tNil)))) tNil))))) (tCall (sp_l_take K) [] E0 (tCons (tVar 1) (tCons (tC (.int 4)) tNil)))) (gName 3))
  (t_law_4 K))
abbrev t_law_2 (K : PySem.W.Frag) : TS := (tSeq (tAsg (tOp (uIx K) (tLst (tCons (tC (.int 2)) (tCons (tC (.int 3)) (tCons (tC (.int 7)) (tCons (tC (.int 50)) (tCons (tOp (uAdd K) (tC (.int 2)) (tCall (sp_l_take K) [] E0 (tCons (tVar 1) (tCons (tC (.int 49)) tNil)))) tNil)))))) (tCall (sp_l_take K) [] E0 (tCons (tVar 1) (tCons (tC (.int 5)) tNil)))) (gName 2))
  (t_law_3 K))
abbrev t_law_1 (K : PySem.W.Frag) : TS := (tSeq (tAsg (tCall (sp_l_bag K) [] E0 (tCons (tVar 0) tNil)) (gName 1))
  (t_law_2 K))
abbrev t_law (K : PySem.W.Frag) : TS := (t_law_1 K)
theorem shw_lists {ls : List (List Int)} (h : ∀ l ∈ ls, ∀ n ∈ l, 0 ≤ n ∧ n ≤ 999) (hk : ∀ l ∈ ls, l.length ≤ 16) (hm : ls.length ≤ 48) : Shw (dL ls) :=
  (Sh.lists (k := 16) (m := 48) (fun l hl n hn => sign_small (h l hl n hn)) hk hm).shw (by decide) (by decide)
theorem shw_ints {ns : List Int} (h : Signs 0 48 ns) : Shw (dI ns) := (Sh.ints (k := 48) (fun n hn => sign_small (h.sg n hn)) h.hi).shw (by decide) (by decide)
theorem cut_sub_shw {by_ most : Int} {ns : List Int} {ls : List (List Int)} (hm : 1 ≤ most ∧ most ≤ 16) (hs : Signs 0 48 ns) (h : ls.Sublist (cutN by_ most ns)) : Shw (dL ls) := by
  refine shw_lists (fun l hl n hn => hs.sg n (cutN_mem hm.1 (h.subset hl) hn)) (fun l hl => ?_) (Nat.le_trans h.length_le (Nat.le_trans (cutN_len hm.1 ns) hs.hi))
  have := cutN_le (by_ := by_) hm.1 ns l (h.subset hl)
  omega
theorem any_empty {ls : List (List Int)} (h : ∀ l ∈ ls, l ≠ []) : (ls.map dI).any (fun z => PyData.eqv z (dI [])) = false := by
  rw [List.any_eq_false]
  intro d hd
  obtain ⟨l, hl, rfl⟩ := List.mem_map.mp hd
  have e : PyData.eqv (dI l) (dI []) = decide (l = []) := eqv_ints l []
  rw [e, decide_eq_false (h l hl)]
  decide
theorem u_joined {K : PySem.W.Frag} {Rs : List Res} {v : V} {ls : List (List Int)} {H : Hp} {Q : VK} {E : XK} (S : M (dt K v (dL ls) :: Rs) H) (hl : ls.flatten.length ≤ 1000) (k : ∀ p H', M (pt p (.lst (ls.flatten.map V.int)) :: Rs) H' → Q (.ref p) H') : sp_l_joined K ([v] ++ []) H Q E := ⟨Rs, v, ls, rfl, S, hl, k⟩
theorem u_ended {K : PySem.W.Frag} {Rs : List Res} {v : V} {ls : List (List Int)} {whole many : Int} {H : Hp} {Q : VK} {E : XK} (S : M (dt K v (dL ls) :: Rs) H) (hl : ls.length ≤ 1000) (k : ∀ p us H', M (pt p (.lst us) :: dtA K us ((endedL whole many 0 ls).map dI) :: Rs) H' → Q (.ref p) H') : sp_l_ended K ([v, .int whole, .int many] ++ []) H Q E := ⟨Rs, v, ls, whole, many, rfl, S, hl, k⟩
theorem u_changed {K : PySem.W.Frag} {Rs : List Res} {bag a : Addr} {by_ : Int} {ns : List Int} {H : Hp} {Q : VK} {E : XK} (S : M (bagR bag :: Rs) H) (hS : Ent Rs (fun H => H a = some (.lst (ns.map V.int)))) (hb : 2 ≤ by_ ∧ by_ ≤ 50) (sg : Signs 0 48 ns)
    (k : ∀ p f o n e F O N E H', Signs 0 48 (F ++ O ++ E) → Signs 0 48 (F ++ N ++ E) → M (bagR bag :: fz p (.tup [.ref f, .ref o, .ref n, .ref e]) :: pt f (.lst (F.map V.int)) :: pt o (.lst (O.map V.int)) :: pt n (.lst (N.map V.int)) :: pt e (.lst (E.map V.int)) :: Rs) H' → Q (.ref p) H') :
    sp_l_changed K ([.ref bag, .ref a, .int by_] ++ []) H Q E := ⟨Rs, bag, a, by_, ns, rfl, S, hS, hb, sg, k⟩
theorem u_cut2 {K : PySem.W.Frag} {Rs : List Res} {a : Addr} {by_ most : Int} {ns : List Int} {H : Hp} {Q : VK} {E : XK} (S : M Rs H) (hS : Ent Rs (fun H => H a = some (.lst (ns.map V.int)))) (hb : 2 ≤ by_ ∧ by_ ≤ 50) (hm : 1 ≤ most ∧ most ≤ 16) (sg : Signs 0 48 ns)
    (k : ∀ p H', M (dt K (.ref p) (dL (cutN by_ most ns)) :: Rs) H' → Q (.ref p) H') : sp_cut K ([.ref a] ++ ([.int by_, .int most] ++ [])) H Q E :=
  ⟨Rs, a, by_, most, ns, rfl, S, hS, hb, hm, sg, fun p ls H' e S' => k p H' (by rw [← e]; exact S'.toD)⟩
/-- the heads of one of the two -/
theorem k13_heads {K : PySem.W.Frag} {R0 : List Res} {to bo f q : Addr} {tv bv : List V} {vk vo : V} {by_ top kk : Int} {F x y : List Int} {H : Hp} {Nx Bk Ct : L2.St → Hp → Prop} {Rt : VK} {w0 w1 w4 w5 w9 w11 w12 w13 w14 w15 w16 : Option V}
    (hm : 1 ≤ top ∧ top ≤ 16) (ht : Ent R0 fun H => H to = some (.lst tv)) (hbo : Ent R0 fun H => H bo = some (.lst bv)) (hf : Ent R0 fun H => H f = some (.lst (F.map V.int))) (hq : Ent R0 fun H => H q = some (.lst ((F ++ x).map V.int)))
    (e1 : atI tv kk = some vk) (e2 : atI tv (1 - kk) = some vo) (e3 : atI bv kk = some (.ref q)) (sx : Signs 0 48 (F ++ x)) (sy : Signs 0 48 (F ++ y))
    (hv : EntF R0 (dt K vk (dL (cutN by_ top (F ++ x))))) (hw : EntF R0 (dt K vo (dL (cutN by_ top (F ++ y))))) (S0 : M R0 H)
    (hD : ∀ H' w14, M R0 H' → Nx [w0, w1, some (V.int by_), some (V.int top), w4, w5, some (V.ref bo), some (V.ref to), some (V.int kk), w9, some (V.ref f), w11, w12, w13, w14, w15, w16, none] H') :
    t_law_10 K ⟨Nx, Rt, Bk, Ct⟩ [w0, w1, some (V.int by_), some (V.int top), w4, w5, some (V.ref bo), some (V.ref to), some (V.int kk), w9, some (V.ref f), w11, w12, w13, w14, w15, w16, none] H := by
  have lx := sx.hi
  obtain ⟨po, vs, hpo, S⟩ := (S0.add0 hw).openL
  cases hpo
  replace S := M.add (As := [rdL K po vs, dtA K vs ((cutN by_ top (F ++ y)).map dI)]) hv S
  clear S0
  replace S : M (dt K vk (dL (cutN by_ top (F ++ x))) :: rdL K po vs :: dtA K vs ((cutN by_ top (F ++ y)).map dI) :: R0) H := S
  walk_at "st"
  refine v_ixL (SqL.of (ht _ S.tl.tl.tl)) e1 ?_
  walk_at "ev"
  have cl := cutN_len (by_ := by_) hm.1 (F ++ x)
  refine u_joined S.dupD (by rw [cutN_join hm.1]; omega) fun jo H1 S1 => ?_
  rw [cutN_join hm.1] at S1
  walk_at "ev"
  refine v_ixL (SqL.of (hbo _ S1.tl.tl.tl.tl)) e3 ?_
  walk_at "ev"
  refine u_alike (dp_ints (SqL.of (S1.got 0 rfl))) (dp_ints (SqL.of (hq _ S1.tl.tl.tl.tl))) (shw_ints sx) ?_
  walk_at "ev"
  refine v_lst S1 (by simp) fun em H2 S2 => ?_
  walk_at "ev"
  refine v_ixL (SqL.of (ht _ S2.tl.tl.tl.tl.tl)) e1 ?_
  refine .inr (.inl ⟨dI [], _, dp_ints (ns := []) (SqL.of (S2.got 0 rfl)), S2.gotD 2 rfl, shaped_ints [], (cutN_shw hm.1 hm.2 sx).shaped, ?_⟩)
  rw [any_empty (cutN_ne hm.1 _)]
  walk_at "ev"
  refine g_next ?_
  walk_at "nx"
  have S3 := S2.tl.tl
  clear S S1 S2
  walk_at "st"
  refine v_ixL (SqL.of (ht _ S3.tl.tl.tl)) e1 ?_
  walk_at "ev"
  refine v_ixL (SqL.of (hbo _ S3.tl.tl.tl)) e3 ?_
  walk_at "ev"
  refine v_lenL (SqL.of (hq _ S3.tl.tl.tl)) ?_
  walk_at "ev"
  refine v_lenL (SqL.of (hf _ S3.tl.tl.tl)) ?_
  walk_at "ev"
  rw [List.length_map, List.length_map]
  refine u_ended S3 (by omega) fun hd us H3 S4 => ?_
  have hh := heads_same (by_ := by_) hm.1 F x y
  simp only at hh
  generalize endedL ((F ++ x).length : Nat) (F.length : Nat) 0 (cutN by_ top (F ++ x)) = hs at S4 hh
  have hul : us.length = hs.length := by
    have := DpAll.length (S4.gotA 1 rfl)
    rw [List.length_map] at this
    exact this
  walk_at "nx"
  walk_at "st"
  refine v_ixL (SqL.of (ht _ S4.tl.tl.tl.tl)) e2 ?_
  walk_at "ev"
  refine v_slL S4 (S4.gotR 2 rfl) fun sl H4 S6 => ?_
  rw [cut_to, hul] at S6
  walk_at "ev"
  have d1 : Dp K H4 (.ref sl) (dL ((cutN by_ top (F ++ y)).take hs.length)) := by
    have z := DpAll.take (S6.gotA 4 rfl) hs.length
    rw [← List.map_take] at z
    exact .lst (SqL.of (S6.got 0 rfl)) z
  rw [hh] at d1
  have sw : Shw (dL hs) := by
    rw [← hh]
    exact cut_sub_shw hm sy (List.take_sublist _ _)
  refine u_alike d1 (.lst (SqL.of (S6.got 1 rfl)) (S6.gotA 2 rfl)) sw ?_
  walk_at "go"
  exact hD _ _ S6.tl.tl.tl.tl.tl
/-- the tails -/
theorem k13_tails {K : PySem.W.Frag} {R0 : List Res} {to e : Addr} {v0 v1 : V} {by_ top : Int} {E x0 x1 : List Int} {H : Hp} {Nx Bk Ct : L2.St → Hp → Prop} {Rt : VK} {w0 w1 w4 w5 w6 w8 w9 w10 w11 w12 w14 w15 w16 : Option V}
    (hb : 2 ≤ by_ ∧ by_ ≤ 50) (hm : 1 ≤ top ∧ top ≤ 16) (ht : Ent R0 fun H => H to = some (.lst [v0, v1])) (he : Ent R0 fun H => H e = some (.lst (E.map V.int)))
    (s0 : Signs 0 48 (x0 ++ E)) (s1 : Signs 0 48 (x1 ++ E)) (hv : EntF R0 (dt K v0 (dL (cutN by_ top (x0 ++ E))))) (hw : EntF R0 (dt K v1 (dL (cutN by_ top (x1 ++ E))))) (S0 : M R0 H)
    (hD : ∀ H' w8 w9 w15 w16, M R0 H' → Nx [w0, w1, some (V.int by_), some (V.int top), w4, w5, w6, some (V.ref to), w8, w9, w10, w11, w12, some (V.ref e), w14, w15, w16, none] H') :
    t_law_15 K ⟨Nx, Rt, Bk, Ct⟩ [w0, w1, some (V.int by_), some (V.int top), w4, w5, w6, some (V.ref to), w8, w9, w10, w11, w12, some (V.ref e), w14, w15, w16, none] H := by
  have hE : E.length ≤ 48 := by
    have := s0.hi
    rw [List.length_append] at this
    omega
  have sE : ∀ n ∈ E, 0 ≤ n ∧ n ≤ 999 := fun n hn => s0.sg n (List.mem_append_right _ hn)
  walk_at "st"
  refine v_lenL (SqL.of (he _ S0)) ?_
  rw [List.length_map]
  walk_at "ev"
  refine v_itR (by omega) ?_
  refine lc_W walk_range S0 (fun i acc => ∃ ks : List Int, acc = ks.map V.int ∧ ks.length ≤ i ∧ ∀ k ∈ ks, 0 ≤ k ∧ k < E.length ∧ (E.getD k.toNat 0) % by_ = 0) ⟨[], rfl, Nat.le_refl _, (fun _ h => nomatch h)⟩ (fun _ _ => trivial) ?_ ?_
  · rintro i x acc L H1 H2 hi ⟨ks, rfl, hl, hk⟩ S ⟨rfl, rfl⟩
    have hi2 : i < E.length := by omega
    walk_at "ev"
    refine v_ixL (SqL.of (he _ S.tl)) (atI_ints (by omega) (by omega)) ?_
    walk_at "ev"
    refine v_ifD (fun h => ?_) (fun h => ?_)
    · walk_at "ev"
      refine lc_next S 0 rfl (by rw [List.length_map]; omega) fun H3 S3 => ⟨_, ⟨ks ++ [0 + (i : Int)], by rw [List.map_append]; rfl, by simp; omega, fun k hk2 => ?_⟩, S3⟩
      rcases List.mem_append.mp hk2 with z | z
      · exact hk k z
      · cases List.mem_singleton.mp z
        exact ⟨by omega, by omega, h⟩
    · exact ⟨_, ⟨ks, rfl, by omega, hk⟩, S⟩
  rintro L acc H1 ⟨ks, rfl, hl, hk⟩ S
  walk_at "nx"
  walk_at "st"
  refine v_lst S (by simp) fun em H2 S2 => ?_
  refine v_neD (dp_ints (SqL.of (S2.got 1 rfl))) (dp_ints (ns := []) (SqL.of (S2.got 0 rfl))) (shaped_ints _) (shaped_ints _) ?_
  rw [eqv_ints]
  walk_at "ev"
  refine v_ifN (fun h => ?_) (fun h => ?_)
  · obtain ⟨k0, kr, rfl⟩ := List.exists_cons_of_ne_nil h
    obtain ⟨g1, g2, g3⟩ := hk k0 List.mem_cons_self
    walk_at "st"
    refine v_ixL (v := .int k0) (SqL.of (S2.got 1 rfl)) (atI_int (Int.le_refl 0) rfl) ?_
    walk_at "ev"
    refine v_slI S2 (SqL.of (he _ S2.tl.tl)) (cutI_from E (by omega)) fun re H3 S3 => ?_
    walk_at "ev"
    have sr : Signs 0 48 (E.drop (k0 + 1).toNat) := ⟨Nat.zero_le _, by rw [List.length_drop]; omega, fun n hn => sE n (List.mem_of_mem_drop hn)⟩
    refine u_cut2 S3 (fun H S => S.got 0 rfl) hb hm sr fun rs H4 S4 => ?_
    walk_at "nx"
    have et : ∀ x : List Int, ∃ cl, cutN by_ top (x ++ E) = cl ++ cutN by_ top (E.drop (k0 + 1).toNat) := by
      intro x
      have hl2 : k0.toNat < E.length := by omega
      have e1 : x ++ E = (x ++ E.take k0.toNat) ++ (E.getD k0.toNat 0 :: E.drop (k0 + 1).toNat) := by
        rw [List.append_assoc]
        congr 1
        rw [show (k0 + 1).toNat = k0.toNat + 1 by omega]
        rw [List.getD_eq_getElem?_getD, List.getElem?_eq_getElem hl2]
        show E = E.take k0.toNat ++ (E[k0.toNat] :: E.drop (k0.toNat + 1))
        rw [← List.drop_eq_getElem_cons hl2, List.take_append_drop]
      rw [e1]
      exact tails_same _ _ _ g3
    obtain ⟨rp, rv, hrp, S5⟩ := S4.openL
    cases hrp
    have hrl : rv.length = (cutN by_ top (E.drop (k0 + 1).toNat)).length := by
      have := DpAll.length (S5.gotA 1 rfl)
      rw [List.length_map] at this
      exact this
    have swr : Shw (dL (cutN by_ top (E.drop (k0 + 1).toNat))) := cutN_shw hm.1 hm.2 sr
    generalize cutN by_ top (E.drop (k0 + 1).toNat) = P at et S5 hrl swr
    walk_at "st"
    refine v_itL (SqL.of (ht _ S5.tl.tl.tl.tl.tl)) ?_
    have S6 : M (rdL K rs rv :: dtA K rv (P.map dI) :: R0) H4 := by walk_at "sub"
    refine for_W walk_list (fun i σ H' => ∃ w16, σ = [w0, w1, some (V.int by_), some (V.int top), w4, w5, w6, some (V.ref to), w8, some (V.ref L), w10, w11, w12, some (V.ref e), w14, some (V.ref rs), w16, none] ∧ M (rdL K rs rv :: dtA K rv (P.map dI) :: R0) H')
      ⟨w16, rfl, S6⟩ (fun i σ H' _ ⟨_, _, S⟩ => SqL.of (ht _ S.tl.tl)) ?_ ?_
    · rintro i x σ H5 H6 hi ⟨w16, rfl, S⟩ ⟨rfl, hx⟩
      have one : ∀ {v : V} {x : List Int}, EntF R0 (dt K v (dL (cutN by_ top (x ++ E)))) →
          t_law_19 K ⟨fun σ H' => ∃ w16, σ = [w0, w1, some (V.int by_), some (V.int top), w4, w5, w6, some (V.ref to), w8, some (V.ref L), w10, w11, w12, some (V.ref e), w14, some (V.ref rs), w16, none] ∧ M (rdL K rs rv :: dtA K rv (P.map dI) :: R0) H', Rt, Nx,
            fun σ H' => ∃ w16, σ = [w0, w1, some (V.int by_), some (V.int top), w4, w5, w6, some (V.ref to), w8, some (V.ref L), w10, w11, w12, some (V.ref e), w14, some (V.ref rs), w16, none] ∧ M (rdL K rs rv :: dtA K rv (P.map dI) :: R0) H'⟩
            [w0, w1, some (V.int by_), some (V.int top), w4, w5, w6, some (V.ref to), w8, some (V.ref L), w10, w11, w12, some (V.ref e), w14, some (V.ref rs), some v, none] H6 := by
        intro v x hv
        obtain ⟨po, vs, hpo, S7⟩ := (M.add (As := [rdL K rs rv, dtA K rv (P.map dI)]) hv S).openL
        cases hpo
        replace S7 : M (rdL K po vs :: dtA K vs ((cutN by_ top (x ++ E)).map dI) :: rdL K rs rv :: dtA K rv (P.map dI) :: R0) H6 := S7
        obtain ⟨cl, ec⟩ := et x
        rw [ec] at S7
        have hvl : vs.length = cl.length + P.length := by
          have := DpAll.length (S7.gotA 1 rfl)
          rw [List.length_map, List.length_append] at this
          exact this
        walk_at "st"
        rw [hvl, hrl, show ((cl.length + P.length : Nat) : Int) - (P.length : Nat) = (cl.length : Nat) by omega]
        refine v_slL S7 (S7.gotR 0 rfl) fun sl H7 S8 => ?_
        rw [cut_from] at S8
        walk_at "ev"
        have d1 : Dp K H7 (.ref sl) (dL P) := by
          have z := DpAll.drop (S8.gotA 2 rfl) cl.length
          rw [← List.map_drop, List.drop_append_of_le_length (Nat.le_refl _), List.drop_length, List.nil_append] at z
          exact .lst (SqL.of (S8.got 0 rfl)) z
        refine u_alike d1 (.lst (S8.gotR 3 rfl) (S8.gotA 4 rfl)) swr ?_
        walk_at "go"
        exact ⟨_, rfl, S8.tl.tl.tl⟩
      have c : i = 0 ∨ i = 1 := by
        have : i < 2 := hi
        omega
      walk_at "ev"
      rcases c with rfl | rfl
      · cases (Option.some.inj hx)
        exact one hv
      · cases (Option.some.inj hx)
        exact one hw
    · rintro σ H5 ⟨w16, rfl, S⟩
      walk_at "go"
      exact hD _ _ _ _ _ S.tl.tl
  · walk_at "go"
    exact hD _ _ _ _ _ S2.tl.tl
theorem pure_law {K : PySem.W.Frag} (vs : List V) (H : Hp) (Q : VK) (E : XK) (h : sp_law K vs H Q E) : t_law K { nx := fun _ H' => Q .non H', rt := Q } (start ["_law_script", "_law_bag_here", "_law_by", "_law_top", "_law_turn", "_law_content_here", "_law_both", "_law_told", "_law_k", "_law_places", "_law_front", "_law_old", "_law_new", "_law_end", "_law_heads", "_law_rest", "_law_pieces", "_law_one"] vs) H := by
  obtain ⟨a, ns, rfl, hS, hl, k⟩ := h
  show t_law K _ [some (V.ref a), none, none, none, none, none, none, none, none, none, none, none, none, none, none, none, none, none] H
  have S := M.start hS
  walk_at "go"
  refine u_bag S (fun H S => S.gotR 0 rfl) hl fun bag H1 S1 => ?_
  walk_at "go"
  refine u_take S1 (by decide) fun v1 H2 l1 u1 S2 => ?_
  walk_at "go"
  refine v_lst S2 (by simp) fun m1 H3 S3 => ?_
  walk_at "go"
  refine u_take (S3.at 1 rfl) (by decide) fun v2 H4 l2 u2 S4 => ?_
  obtain ⟨by_, hb, eb⟩ := menuI (xs := [V.int 2, V.int 3, V.int 7, V.int 50, V.int (2 + v1)]) (v := v2) (fun n => 2 ≤ n ∧ n ≤ 50) (by simp only [AllI, and_true]; omega) l2 u2
  refine v_ixL (SqL.of (S4.got 1 rfl)) eb ?_
  walk_at "go"
  refine u_take S4 (by decide) fun v4 H5 l4 u4 S5 => ?_
  walk_at "go"
  refine v_lst S5 (by simp) fun m2 H6 S6 => ?_
  walk_at "go"
  refine u_take (S6.at 1 rfl) (by decide) fun v5 H7 l5 u5 S7 => ?_
  obtain ⟨top, hm, et⟩ := menuI (xs := [V.int 1, V.int 16, V.int 8, V.int (1 + v4)]) (v := v5) (fun n => 1 ≤ n ∧ n ≤ 16) (by simp only [AllI, and_true]; omega) l5 u5
  refine v_ixL (SqL.of (S7.got 1 rfl)) et ?_
  walk_at "go"
  refine v_itR (by decide) ?_
  have S8 : M (bagR bag :: []) H7 := by walk_at "sub"
  refine for_W walk_range (fun i σ H' => ∃ (x4 x5 x6 x7 x8 x9 x10 x11 x12 x13 x14 x15 x16 : Option V), σ = [some (V.ref a), some (V.ref bag), some (V.int by_), some (V.int top), x4, x5, x6, x7, x8, x9, x10, x11, x12, x13, x14, x15, x16, none] ∧ M (bagR bag :: []) H')
    ⟨none, none, none, none, none, none, none, none, none, none, none, none, none, rfl, S8⟩ (fun _ _ _ _ _ => trivial) ?_ ?_
  · rintro i x σ H8 H9 hi ⟨x4, x5, x6, x7, x8, x9, x10, x11, x12, x13, x14, x15, x16, rfl, S⟩ ⟨rfl, rfl⟩
    clear S1 S2 S3 S4 S5 S6 S7 S8
    walk_at "go"
    refine u_content S (by decide) hb fun c ns H10 sg S10 => ?_
    walk_at "nx"
    walk_at "st"
    refine u_changed S10 (fun H S => S.got 0 rfl) hb sg fun p f o n e F O N En H11 sx sy S11 => ?_
    walk_at "ev"
    walk_at "nx"
    walk_at "st"
    have lx := sx.hi
    have ly := sy.hi
    rw [List.length_append, List.length_append] at lx ly
    refine v_cat S11 (S11.got 2 rfl) (S11.got 3 rfl) (by rw [List.length_map, List.length_map]; omega) fun a1 H12 S12 => ?_
    rw [← List.map_append] at S12
    walk_at "ev"
    refine v_cat S12 (S12.got 0 rfl) (S12.got 6 rfl) (by rw [List.length_map, List.length_map, List.length_append]; omega) fun q0 H13 S13 => ?_
    rw [← List.map_append] at S13
    walk_at "ev"
    refine v_cat S13 (S13.got 4 rfl) (S13.got 6 rfl) (by rw [List.length_map, List.length_map]; omega) fun a2 H14 S14 => ?_
    rw [← List.map_append] at S14
    walk_at "ev"
    refine v_cat S14 (S14.got 0 rfl) (S14.got 8 rfl) (by rw [List.length_map, List.length_map, List.length_append]; omega) fun q1 H15 S15 => ?_
    rw [← List.map_append] at S15
    walk_at "ev"
    refine v_lst S15 (by simp) fun bo H16 S16 => ?_
    have S17 : M (bagR bag :: pt bo (.lst [V.ref q0, V.ref q1]) :: pt q0 (.lst ((F ++ O ++ En).map V.int)) :: pt q1 (.lst ((F ++ N ++ En).map V.int)) :: pt f (.lst (F.map V.int)) :: pt e (.lst (En.map V.int)) :: []) H16 := by walk_at "sub"
    clear S S10 S11 S12 S13 S14 S15 S16
    walk_at "nx"
    walk_at "st"
    refine v_itL (SqL.of (S17.got 1 rfl)) ?_
    refine lc_X walk_list (fun L i H' => ∃ vs, M (pt L (.lst vs) :: dtA K vs (([F ++ O ++ En, F ++ N ++ En].take i).map fun x => dL (cutN by_ top x)) :: bagR bag :: pt bo (.lst [V.ref q0, V.ref q1]) :: pt q0 (.lst ((F ++ O ++ En).map V.int)) :: pt q1 (.lst ((F ++ N ++ En).map V.int)) :: pt f (.lst (F.map V.int)) :: pt e (.lst (En.map V.int)) :: []) H')
      (fun L hL => ⟨[], by
        have z := ((S17.new (o := .lst []) hL).dtA0 (K := K)).perm (.swap _ _ _)
        exact z⟩) (fun L i H' _ ⟨vs, S⟩ => SqL.of (S.got 3 rfl)) ?_ ?_
    · rintro L i x H17 H18 hi ⟨vs, S⟩ ⟨rfl, hx⟩
      obtain ⟨q, xs, rfl, hq, hxs, sgx⟩ : ∃ (q : Addr) (xs : List Int), x = .ref q ∧ H18 q = some (.lst (xs.map V.int)) ∧ [F ++ O ++ En, F ++ N ++ En][i]? = some xs ∧ Signs 0 48 xs := by
        have c : i = 0 ∨ i = 1 := by
          have : i < 2 := hi
          omega
        rcases c with rfl | rfl
        · cases (Option.some.inj hx)
          exact ⟨q0, _, rfl, S.got 4 rfl, rfl, sx⟩
        · cases (Option.some.inj hx)
          exact ⟨q1, _, rfl, S.got 5 rfl, rfl, sy⟩
      have hvl : vs.length ≤ 2 := by
        have := DpAll.length (S.gotA 1 rfl)
        rw [List.length_map, List.length_take] at this
        simp only [List.length_cons, List.length_nil] at this
        omega
      walk_at "go"
      refine v_list S (.inl (SqL.of hq)) fun c H19 S19 => ?_
      walk_at "go"
      refine u_cut2 S19 (fun H S => S.got 0 rfl) hb hm sgx fun p2 H20 S20 => ?_
      refine lc_next S20 2 rfl (by omega) fun H21 S21 => ⟨vs ++ [.ref p2], ?_⟩
      rw [take_more hxs, List.map_append]
      have z := (show M (dt K (.ref p2) (dL (cutN by_ top xs)) :: dtA K vs (([F ++ O ++ En, F ++ N ++ En].take i).map fun x => dL (cutN by_ top x)) :: pt L (.lst (vs ++ [V.ref p2])) :: bagR bag :: pt bo (.lst [V.ref q0, V.ref q1]) :: pt q0 (.lst ((F ++ O ++ En).map V.int)) :: pt q1 (.lst ((F ++ N ++ En).map V.int)) :: pt f (.lst (F.map V.int)) :: pt e (.lst (En.map V.int)) :: []) H21 by walk_at "sub").dtA1
      exact z.perm (.swap _ _ _)
    rintro to H17 ⟨vs, S⟩
    obtain ⟨v0, v1, rfl⟩ : ∃ v0 v1, vs = [v0, v1] := by
      have := DpAll.length (S.gotA 1 rfl)
      match vs, this with
      | [x, y], _ => exact ⟨x, y, rfl⟩
    have S18 : M (bagR bag :: pt to (.lst [v0, v1]) :: dtA K [v0, v1] [dL (cutN by_ top (F ++ O ++ En)), dL (cutN by_ top (F ++ N ++ En))] :: pt bo (.lst [V.ref q0, V.ref q1]) :: pt q0 (.lst ((F ++ O ++ En).map V.int)) :: pt q1 (.lst ((F ++ N ++ En).map V.int)) :: pt f (.lst (F.map V.int)) :: pt e (.lst (En.map V.int)) :: []) H17 := by
      have z := S.perm (List.perm_append_comm (l₁ := [_, _, _]) (l₂ := _) |>.trans (List.perm_append_comm))
      have S' : M (pt to (.lst [v0, v1]) :: dtA K [v0, v1] [dL (cutN by_ top (F ++ O ++ En)), dL (cutN by_ top (F ++ N ++ En))] :: bagR bag :: pt bo (.lst [V.ref q0, V.ref q1]) :: pt q0 (.lst ((F ++ O ++ En).map V.int)) :: pt q1 (.lst ((F ++ N ++ En).map V.int)) :: pt f (.lst (F.map V.int)) :: pt e (.lst (En.map V.int)) :: []) H17 := S
      clear z S
      walk_at "sub"
    clear S S17
    have hdO : EntF (bagR bag :: pt to (.lst [v0, v1]) :: dtA K [v0, v1] [dL (cutN by_ top (F ++ O ++ En)), dL (cutN by_ top (F ++ N ++ En))] :: pt bo (.lst [V.ref q0, V.ref q1]) :: pt q0 (.lst ((F ++ O ++ En).map V.int)) :: pt q1 (.lst ((F ++ N ++ En).map V.int)) :: pt f (.lst (F.map V.int)) :: pt e (.lst (En.map V.int)) :: []) (dt K v0 (dL (cutN by_ top (F ++ O ++ En)))) := EntF.dtA (j := 0) 2 rfl rfl rfl
    have hdN : EntF (bagR bag :: pt to (.lst [v0, v1]) :: dtA K [v0, v1] [dL (cutN by_ top (F ++ O ++ En)), dL (cutN by_ top (F ++ N ++ En))] :: pt bo (.lst [V.ref q0, V.ref q1]) :: pt q0 (.lst ((F ++ O ++ En).map V.int)) :: pt q1 (.lst ((F ++ N ++ En).map V.int)) :: pt f (.lst (F.map V.int)) :: pt e (.lst (En.map V.int)) :: []) (dt K v1 (dL (cutN by_ top (F ++ N ++ En)))) := EntF.dtA (j := 1) 2 rfl rfl rfl
    walk_at "nx"
    walk_at "st"
    refine v_itR (by decide) ?_
    refine for_W walk_range (fun j σ H' => ∃ (x8 x14 : Option V), σ = [some (V.ref a), some (V.ref bag), some (V.int by_), some (V.int top), some (V.int (0 + (i : Int))), some (V.ref c), some (V.ref bo), some (V.ref to), x8, x9, some (V.ref f), some (V.ref o), some (V.ref n), some (V.ref e), x14, x15, x16, none] ∧
      M (bagR bag :: pt to (.lst [v0, v1]) :: dtA K [v0, v1] [dL (cutN by_ top (F ++ O ++ En)), dL (cutN by_ top (F ++ N ++ En))] :: pt bo (.lst [V.ref q0, V.ref q1]) :: pt q0 (.lst ((F ++ O ++ En).map V.int)) :: pt q1 (.lst ((F ++ N ++ En).map V.int)) :: pt f (.lst (F.map V.int)) :: pt e (.lst (En.map V.int)) :: []) H') ⟨x8, x14, rfl, S18⟩ (fun _ _ _ _ _ => trivial) ?_ ?_
    · rintro j x σ H18 H19 hj ⟨y8, y14, rfl, S⟩ ⟨rfl, rfl⟩
      rw [List.append_assoc] at sx sy
      have cj : j = 0 ∨ j = 1 := by
        have : j < 2 := hj
        omega
      walk_at "ev"
      rcases cj with rfl | rfl
      · refine k13_heads (q := q0) (vk := v0) (vo := v1) (F := F) (x := O ++ En) (y := N ++ En) hm (fun H S => S.got 1 rfl) (fun H S => S.got 3 rfl) (fun H S => S.got 6 rfl) (fun H S => by rw [← List.append_assoc]; exact S.got 4 rfl) rfl rfl rfl sx sy (by rw [← List.append_assoc]; exact hdO) (by rw [← List.append_assoc]; exact hdN) S fun H' w S' => ⟨_, _, rfl, S'⟩
      · refine k13_heads (q := q1) (vk := v1) (vo := v0) (F := F) (x := N ++ En) (y := O ++ En) hm (fun H S => S.got 1 rfl) (fun H S => S.got 3 rfl) (fun H S => S.got 6 rfl) (fun H S => by rw [← List.append_assoc]; exact S.got 5 rfl) rfl rfl rfl sy sx (by rw [← List.append_assoc]; exact hdN) (by rw [← List.append_assoc]; exact hdO) S fun H' w S' => ⟨_, _, rfl, S'⟩
    · rintro σ H18 ⟨y8, y14, rfl, S⟩
      walk_at "nx"
      refine k13_tails (x0 := F ++ O) (x1 := F ++ N) hb hm (fun H S => S.got 1 rfl) (fun H S => S.got 7 rfl) sx sy hdO hdN S fun H' w8 w9 w15 w16 S' => ⟨_, _, _, _, _, _, _, _, _, _, _, _, _, rfl, by walk_at "sub"⟩
  · rintro σ H8 ⟨x4, x5, x6, x7, x8, x9, x10, x11, x12, x13, x14, x15, x16, rfl, S⟩
    walk_at "go"
    exact k _
section
variable {P : Program} {w : World} {K : PySem.W.Frag} {mg : Str → Option Value} {base : Heap}
theorem sc_l_bag : FnScope ["_law_script", "_law_cell"] ["_law_script"] (defScope s_l_bag) := ⟨rfl, rfl, rfl, by decide +kernel, rfl, by decide +kernel, by decide +kernel⟩
theorem bd_l_bag (T : Txt K mg) : Binds K (fdOf K (He.ga K "_law_bag")) ["_law_script"] [] := T.F_l_bag.bindsN fun _ _ _ _ _ _ us hl => match us, hl with | [_], _ => rfl
theorem ok_l_bag (T : Txt K mg) : FnX false P w K mg base CX0 1 (He.ga K "_law_bag") (fdOf K (He.ga K "_law_bag")) ["_law_script"] (sp_l_bag K) := by
  refine okX T.F_l_bag sc_l_bag len_l_bag (fun cdv A outer s H vs Q E hgu0 hr h => ⟨t_l_bag K, PSs.nox ?_, pure_l_bag vs H Q E h⟩)
  exact (pss_one (ps_ret (pe_lst (pa_cons pe_int (pa_cons pe_int (pa_cons pe_int (pa_cons (pe_lc (own := [("_law_cell", 1)]) (g := (gName 1)) (tt := tYes) rfl sc_l_bag.nd (pi_list (pe_slice sl_any (pv 0) po_none (po_some pe_int))) (blkOk_by (own := [("_law_cell", 1)]) (N := ["_law_script", "_law_cell"]) (sc := defScope s_l_bag) (by decide +kernel)) (fun _ _ _ _ _ => (pg_name (i := 1) sc_l_bag.nd rfl (by first | exact Or.inl rfl | exact Or.inr rfl))) (fun _ _ _ _ _ => pts_nil) (fun _ _ _ _ _ => (pe_callB cr_abs (by rfl) T.b_abs (by decide +kernel) (pa_cons (pv 1) pa_nil)))) pa_nil)))))))
theorem sc_l_take : FnScope ["_law_bag_here", "_law_many", "_law_first", "_law_second", "_law_cell", "_law_value"] ["_law_bag_here", "_law_many"] (defScope s_l_take) := ⟨rfl, rfl, rfl, by decide +kernel, rfl, by decide +kernel, by decide +kernel⟩
theorem bd_l_take (T : Txt K mg) : Binds K (fdOf K (He.ga K "_law_take")) ["_law_bag_here", "_law_many"] [] := T.F_l_take.bindsN fun _ _ _ _ _ _ us hl => match us, hl with | [_, _], _ => rfl
theorem ok_l_take (T : Txt K mg) : FnX false P w K mg base CX0 1 (He.ga K "_law_take") (fdOf K (He.ga K "_law_take")) ["_law_bag_here", "_law_many"] (sp_l_take K) := by
  refine okX T.F_l_take sc_l_take len_l_take (fun cdv A outer s H vs Q E hgu0 hr h => ⟨t_l_take K, PSs.nox ?_, pure_l_take vs H Q E h⟩)
  exact (pss_cons (ps_if (pt_cmpR (uo_eq hr.units) (pe_ix ix_any (pv 0) pe_int (fun _ _ => rfl)) pe_int (nomark _)) (pss_cons (ps_set (i := 4) sc_l_take.nd rfl (by first | exact Or.inl rfl | exact Or.inr rfl) pe_int)
      (pss_cons (ps_if (pt_cmpR uo_lt (pe_ix ix_any (pv 0) pe_int (fun _ _ => rfl)) (pe_callB cr_len (by rfl) T.b_len (by decide +kernel) (pa_cons (pe_ix ix_any (pv 0) pe_int (fun _ _ => rfl)) pa_nil)) (nomark _)) (pss_one (ps_set (i := 4) sc_l_take.nd rfl (by first | exact Or.inl rfl | exact Or.inr rfl) (pe_ix ix_any (pe_ix ix_any (pv 0) pe_int (fun _ _ => rfl)) (pe_ix ix_any (pv 0) pe_int (fun _ _ => rfl)) (fun _ _ => rfl)))) pss_nil)
      (pss_cons (ps_augS (pv 0) pe_int (get_any (hu_of hr)) pe_int (ip_of io_add) (set_any (hu_of hr)))
      (pss_cons (ps_if (pt_cmpR uo_ge (pv 4) pe_int (nomark _)) (pss_one (ps_asg (pv 4) (pg_sub (pv 0) pe_int (set_any (hu_of hr))))) pss_nil)
      (pss_one (ps_asg (pe_op uo_mod (pe_op uo_add (pe_op uo_add (pe_op uo_mul (pe_ix ix_any (pv 0) pe_int (fun _ _ => rfl)) pe_int) (pe_op uo_mod (pv 4) pe_int)) (pe_op uo_mul pe_int (pe_ix ix_any (pv 0) pe_int (fun _ _ => rfl)))) pe_int) (pg_sub (pv 0) pe_int (set_any (hu_of hr))))))))) pss_nil)
      (pss_cons (ps_if (pt_cmpR uo_gt (pe_ix ix_any (pv 0) pe_int (fun _ _ => rfl)) pe_int (nomark _)) (pss_cons (ps_set (i := 5) sc_l_take.nd rfl (by first | exact Or.inl rfl | exact Or.inr rfl) (pe_op uo_mod (pe_ix ix_any (pv 0) pe_int (fun _ _ => rfl)) (pv 1)))
      (pss_cons (ps_asg (pe_op uo_div (pe_ix ix_any (pv 0) pe_int (fun _ _ => rfl)) (pv 1)) (pg_sub (pv 0) pe_int (set_any (hu_of hr))))
      (pss_one (ps_ret (pv 5))))) pss_nil)
      (pss_cons (ps_set (i := 2) sc_l_take.nd rfl (by first | exact Or.inl rfl | exact Or.inr rfl) (pe_op uo_mod (pe_op uo_mul (pe_op uo_add (pe_ix ix_any (pv 0) pe_int (fun _ _ => rfl)) pe_int) pe_int) pe_int))
      (pss_cons (ps_set (i := 3) sc_l_take.nd rfl (by first | exact Or.inl rfl | exact Or.inr rfl) (pe_op uo_mod (pe_op uo_mul (pe_op uo_mod (pe_op uo_mul (pv 2) (pv 2)) pe_int) pe_int) pe_int))
      (pss_cons (ps_if (pt_cmpR uo_gt (pv 1) pe_int (nomark _)) (pss_one (ps_ret (pe_op uo_mod (pe_op uo_add (pe_op uo_mul (pv 3) pe_int) (pv 2)) (pv 1)))) pss_nil)
      (pss_one (ps_ret (pe_op uo_mod (pe_op uo_div (pv 3) pe_int) (pv 1)))))))))
theorem sc_l_content : FnScope ["_law_bag_here", "_law_by", "_law_many", "_law_way", "_law_few", "_law_found", "_law_k", "_law_sign"] ["_law_bag_here", "_law_by", "_law_many"] (defScope s_l_content) := ⟨rfl, rfl, rfl, by decide +kernel, rfl, by decide +kernel, by decide +kernel⟩
theorem bd_l_content (T : Txt K mg) : Binds K (fdOf K (He.ga K "_law_content")) ["_law_bag_here", "_law_by", "_law_many"] [] := T.F_l_content.bindsN fun _ _ _ _ _ _ us hl => match us, hl with | [_, _, _], _ => rfl
theorem ok_l_content (T : Txt K mg) : FnX false P w K mg base CX0 2 (He.ga K "_law_content") (fdOf K (He.ga K "_law_content")) ["_law_bag_here", "_law_by", "_law_many"] (sp_l_content K) := by
  refine okX T.F_l_content sc_l_content len_l_content (fun cdv A outer s H vs Q E hgu0 hr h => ⟨t_l_content K, PSs.nox ?_, pure_l_content vs H Q E h⟩)
  exact (pss_cons (ps_set (i := 3) sc_l_content.nd rfl (by first | exact Or.inl rfl | exact Or.inr rfl) (pe_callX (ok_l_take T) (fun z => nomatch z) hr rfl T.g_l_take T.F_l_take.kp (bd_l_take T) .nil pass0 (pa_cons (pv 0) (pa_cons pe_int pa_nil))))
      (pss_cons (ps_set (i := 4) sc_l_content.nd rfl (by first | exact Or.inl rfl | exact Or.inr rfl) (pe_lst (pa_cons (pe_callX (ok_l_take T) (fun z => nomatch z) hr rfl T.g_l_take T.F_l_take.kp (bd_l_take T) .nil pass0 (pa_cons (pv 0) (pa_cons pe_int pa_nil))) (pa_cons (pe_op uo_mul (pv 1) (pe_callX (ok_l_take T) (fun z => nomatch z) hr rfl T.g_l_take T.F_l_take.kp (bd_l_take T) .nil pass0 (pa_cons (pv 0) (pa_cons (pe_op uo_add (pe_op uo_div pe_int (pv 1)) pe_int) pa_nil)))) (pa_cons (pe_callX (ok_l_take T) (fun z => nomatch z) hr rfl T.g_l_take T.F_l_take.kp (bd_l_take T) .nil pass0 (pa_cons (pv 0) (pa_cons pe_int pa_nil))) (pa_cons pe_int pa_nil))))))
      (pss_cons (ps_set (i := 5) sc_l_content.nd rfl (by first | exact Or.inl rfl | exact Or.inr rfl) (pe_lst pa_nil))
      (pss_cons (ps_for PassesOwn.never rfl (pi_range1 (by rfl) T.b_range (pa_cons (pe_ix ix_any (pe_lst (pa_cons (pe_callX (ok_l_take T) (fun z => nomatch z) hr rfl T.g_l_take T.F_l_take.kp (bd_l_take T) .nil pass0 (pa_cons (pv 0) (pa_cons (pe_op uo_add (pv 2) pe_int) pa_nil))) (pa_cons (pv 2) (pa_cons (pe_callX (ok_l_take T) (fun z => nomatch z) hr rfl T.g_l_take T.F_l_take.kp (bd_l_take T) .nil pass0 (pa_cons (pv 0) (pa_cons pe_int pa_nil))) pa_nil)))) (pe_callX (ok_l_take T) (fun z => nomatch z) hr rfl T.g_l_take T.F_l_take.kp (bd_l_take T) .nil pass0 (pa_cons (pv 0) (pa_cons pe_int pa_nil))) (fun _ _ => rfl)) pa_nil)) (pg_name (i := 6) sc_l_content.nd rfl (by first | exact Or.inl rfl | exact Or.inr rfl)) (pss_cons (ps_set (i := 7) sc_l_content.nd rfl (by first | exact Or.inl rfl | exact Or.inr rfl) (pe_callX (ok_l_take T) (fun z => nomatch z) hr rfl T.g_l_take T.F_l_take.kp (bd_l_take T) .nil pass0 (pa_cons (pv 0) (pa_cons pe_int pa_nil))))
      (pss_cons (ps_if (pt_cmpR (uo_eq hr.units) (pv 3) pe_int (nomark _)) (pss_one (ps_set (i := 7) sc_l_content.nd rfl (by first | exact Or.inl rfl | exact Or.inr rfl) (pe_ix ix_any (pv 4) (pe_op uo_mod (pv 7) pe_int) (fun _ _ => rfl)))) pss_nil)
      (pss_cons (ps_if (pt_cmpR (uo_eq hr.units) (pv 3) pe_int (nomark _)) (pss_one (ps_set (i := 7) sc_l_content.nd rfl (by first | exact Or.inl rfl | exact Or.inr rfl) (pe_op uo_sub (pv 7) (pe_op uo_mod (pv 7) (pv 1))))) pss_nil)
      (pss_cons (ps_if (pt_cmpR (uo_eq hr.units) (pv 3) pe_int (nomark _)) (pss_one (ps_set (i := 7) sc_l_content.nd rfl (by first | exact Or.inl rfl | exact Or.inr rfl) (pe_op uo_add (pe_op uo_add (pe_op uo_mul (pe_op uo_div (pe_op uo_mod (pv 7) (pe_op uo_sub pe_int (pv 1))) (pv 1)) (pv 1)) pe_int) (pe_op uo_mod (pv 7) (pe_op uo_sub (pv 1) pe_int))))) pss_nil)
      (pss_one (ps_expr (pe_bm PySem.F.plainAttrs_list PySem.F.slot_list_append PySem.F.type_list_append mt_append (pv 5) (pa_cons (pv 7) pa_nil)))))))))
      (pss_one (ps_ret (pv 5)))))))
theorem sc_l_changed : FnScope ["_law_bag_here", "_law_content_here", "_law_by", "_law_a", "_law_b", "_law_new", "_law_front", "_law_end"] ["_law_bag_here", "_law_content_here", "_law_by"] (defScope s_l_changed) := ⟨rfl, rfl, rfl, by decide +kernel, rfl, by decide +kernel, by decide +kernel⟩
theorem bd_l_changed (T : Txt K mg) : Binds K (fdOf K (He.ga K "_law_changed")) ["_law_bag_here", "_law_content_here", "_law_by"] [] := T.F_l_changed.bindsN fun _ _ _ _ _ _ us hl => match us, hl with | [_, _, _], _ => rfl
theorem ok_l_changed (T : Txt K mg) : FnX false P w K mg base CX0 3 (He.ga K "_law_changed") (fdOf K (He.ga K "_law_changed")) ["_law_bag_here", "_law_content_here", "_law_by"] (sp_l_changed K) := by
  refine okX T.F_l_changed sc_l_changed len_l_changed (fun cdv A outer s H vs Q E hgu0 hr h => ⟨t_l_changed K, PSs.nox ?_, pure_l_changed vs H Q E h⟩)
  exact (pss_cons (ps_set (i := 3) sc_l_changed.nd rfl (by first | exact Or.inl rfl | exact Or.inr rfl) (pe_callX (ok_l_take T) (fun z => nomatch z) (hr.mono (by decide)) rfl T.g_l_take T.F_l_take.kp (bd_l_take T) .nil pass0 (pa_cons (pv 0) (pa_cons (pe_op uo_add (pe_callB cr_len (by rfl) T.b_len (by decide +kernel) (pa_cons (pv 1) pa_nil)) pe_int) pa_nil))))
      (pss_cons (ps_set (i := 4) sc_l_changed.nd rfl (by first | exact Or.inl rfl | exact Or.inr rfl) (pe_op uo_add (pv 3) (pe_callX (ok_l_take T) (fun z => nomatch z) (hr.mono (by decide)) rfl T.g_l_take T.F_l_take.kp (bd_l_take T) .nil pass0 (pa_cons (pv 0) (pa_cons (pe_op uo_add (pe_op uo_sub (pe_callB cr_len (by rfl) T.b_len (by decide +kernel) (pa_cons (pv 1) pa_nil)) (pv 3)) pe_int) pa_nil)))))
      (pss_cons (ps_par (by rfl) sc_l_changed.nd rfl rfl (by decide) rfl rfl (pa_cons (pe_slice sl_any (pv 1) po_none (po_some (pv 3))) (pa_cons (pe_slice sl_any (pv 1) (po_some (pv 4)) po_none) pa_nil)) (by rfl))
      (pss_cons (ps_set (i := 5) sc_l_changed.nd rfl (by first | exact Or.inl rfl | exact Or.inr rfl) (pe_ix ix_any (pe_lst (pa_cons (pe_lst pa_nil) (pa_cons (pe_callX (ok_l_content T) (fun z => nomatch z) hr rfl T.g_l_content T.F_l_content.kp (bd_l_content T) .nil pass0 (pa_cons (pv 0) (pa_cons (pv 2) (pa_cons pe_int pa_nil)))) (pa_cons (pe_op uo_add (pe_slice sl_any (pv 1) (po_some (pv 3)) (po_some (pv 4))) (pe_slice sl_any (pv 1) (po_some (pv 3)) (po_some (pv 4)))) (pa_cons (pe_lst (pa_cons (pv 2) pa_nil)) (pa_cons (pe_slice sl_any (pe_slice sl_any (pv 1) (po_some (pv 3)) (po_some (pv 4))) (po_some pe_int) po_none) pa_nil)))))) (pe_callX (ok_l_take T) (fun z => nomatch z) (hr.mono (by decide)) rfl T.g_l_take T.F_l_take.kp (bd_l_take T) .nil pass0 (pa_cons (pv 0) (pa_cons pe_int pa_nil))) (fun _ _ => rfl)))
      (pss_one (ps_ret (pe_tup (pa_cons (pv 6) (pa_cons (pe_slice sl_any (pv 1) (po_some (pv 3)) (po_some (pv 4))) (pa_cons (pe_slice sl_any (pv 5) po_none (po_some (pe_op uo_sub (pe_op uo_sub pe_int (pe_callB cr_len (by rfl) T.b_len (by decide +kernel) (pa_cons (pv 6) pa_nil))) (pe_callB cr_len (by rfl) T.b_len (by decide +kernel) (pa_cons (pv 7) pa_nil))))) (pa_cons (pv 7) pa_nil)))))))))))
theorem sc_is_whole : FnScope ["thing"] ["thing"] (defScope s_is_whole) := ⟨rfl, rfl, rfl, by decide +kernel, rfl, by decide +kernel, by decide +kernel⟩
theorem bd_is_whole (T : Txt K mg) : Binds K (fdOf K (He.ga K "is_whole")) ["thing"] [] := T.F_is_whole.bindsN fun _ _ _ _ _ _ us hl => match us, hl with | [_], _ => rfl
theorem ok_is_whole (T : Txt K mg) : FnX false P w K mg base CX0 1 (He.ga K "is_whole") (fdOf K (He.ga K "is_whole")) ["thing"] (sp_is_whole K) := by
  refine okX T.F_is_whole sc_is_whole len_is_whole (fun cdv A outer s H vs Q E hgu0 hr h => ⟨t_is_whole K, PSs.nox ?_, pure_is_whole vs H Q E h⟩)
  exact (pss_one (ps_ret (pe_and (pe_callB call_isi (by rfl) T.b_isinstance (by decide +kernel) (pa_cons (pv 0) (pa_cons (pe_bltn (by rfl) T.b_int (by decide +kernel) rfl) pa_nil))) (pe_one (pe_not (pe_callB call_isi (by rfl) T.b_isinstance (by decide +kernel) (pa_cons (pv 0) (pa_cons (pe_bltn (by rfl) T.b_bool (by decide +kernel) rfl) pa_nil))))))))
theorem sc_is_mark : FnScope ["thing"] ["thing"] (defScope s_is_mark) := ⟨rfl, rfl, rfl, by decide +kernel, rfl, by decide +kernel, by decide +kernel⟩
theorem bd_is_mark (T : Txt K mg) : Binds K (fdOf K (He.ga K "is_mark")) ["thing"] [] := T.F_is_mark.bindsN fun _ _ _ _ _ _ us hl => match us, hl with | [_], _ => rfl
theorem ok_is_mark (T : Txt K mg) : FnX false P w K mg base CX0 2 (He.ga K "is_mark") (fdOf K (He.ga K "is_mark")) ["thing"] (sp_is_mark K) := by
  refine okX T.F_is_mark sc_is_mark len_is_mark (fun cdv A outer s H vs Q E hgu0 hr h => ⟨t_is_mark K, PSs.nox ?_, pure_is_mark vs H Q E h⟩)
  exact (pss_one (ps_ret (pe_and (pe_callX (ok_is_whole T) (fun z => nomatch z) hr rfl T.g_is_whole T.F_is_whole.kp (bd_is_whole T) .nil pass0 (pa_cons (pv 0) pa_nil)) (pe_one (pe_chain uo_le uo_le (pe_globI rfl T.c_LEAST_MARK) (pv 0) (pe_globI rfl T.c_MOST_MARK))))))
theorem sc_is_most : FnScope ["thing"] ["thing"] (defScope s_is_most) := ⟨rfl, rfl, rfl, by decide +kernel, rfl, by decide +kernel, by decide +kernel⟩
theorem bd_is_most (T : Txt K mg) : Binds K (fdOf K (He.ga K "is_most")) ["thing"] [] := T.F_is_most.bindsN fun _ _ _ _ _ _ us hl => match us, hl with | [_], _ => rfl
theorem ok_is_most (T : Txt K mg) : FnX false P w K mg base CX0 2 (He.ga K "is_most") (fdOf K (He.ga K "is_most")) ["thing"] (sp_is_most K) := by
  refine okX T.F_is_most sc_is_most len_is_most (fun cdv A outer s H vs Q E hgu0 hr h => ⟨t_is_most K, PSs.nox ?_, pure_is_most vs H Q E h⟩)
  exact (pss_one (ps_ret (pe_and (pe_callX (ok_is_whole T) (fun z => nomatch z) hr rfl T.g_is_whole T.F_is_whole.kp (bd_is_whole T) .nil pass0 (pa_cons (pv 0) pa_nil)) (pe_one (pe_chain uo_le uo_le pe_int (pv 0) (pe_globI rfl T.c_MOST_PIECE))))))
theorem sc_need_numbers : FnScope ["mark", "most"] ["mark", "most"] (defScope s_need_numbers) := ⟨rfl, rfl, rfl, by decide +kernel, rfl, by decide +kernel, by decide +kernel⟩
theorem bd_need_numbers (T : Txt K mg) : Binds K (fdOf K (He.ga K "need_numbers")) ["mark", "most"] [] := T.F_need_numbers.bindsN fun _ _ _ _ _ _ us hl => match us, hl with | [_, _], _ => rfl
theorem ok_need_numbers (T : Txt K mg) : FnX false P w K mg base CX0 3 (He.ga K "need_numbers") (fdOf K (He.ga K "need_numbers")) ["mark", "most"] (sp_need_numbers K) := by
  refine okX T.F_need_numbers sc_need_numbers len_need_numbers (fun cdv A outer s H vs Q E hgu0 hr h => ⟨t_need_numbers K, PSs.nox ?_, pure_need_numbers vs H Q E h⟩)
  exact (pss_cons (ps_if (pt_not (pt_val (pe_callX (ok_is_mark T) (fun z => nomatch z) hr rfl T.g_is_mark T.F_is_mark.kp (bd_is_mark T) .nil pass0 (pa_cons (pv 0) pa_nil)))) (pss_one ps_never) pss_nil)
      (pss_one (ps_if (pt_not (pt_val (pe_callX (ok_is_most T) (fun z => nomatch z) hr rfl T.g_is_most T.F_is_most.kp (bd_is_most T) .nil pass0 (pa_cons (pv 1) pa_nil)))) (pss_one ps_never) pss_nil)))
theorem sc_is_sign : FnScope ["thing"] ["thing"] (defScope s_is_sign) := ⟨rfl, rfl, rfl, by decide +kernel, rfl, by decide +kernel, by decide +kernel⟩
theorem bd_is_sign (T : Txt K mg) : Binds K (fdOf K (He.ga K "is_sign")) ["thing"] [] := T.F_is_sign.bindsN fun _ _ _ _ _ _ us hl => match us, hl with | [_], _ => rfl
theorem ok_is_sign (T : Txt K mg) : FnX false P w K mg base CX0 2 (He.ga K "is_sign") (fdOf K (He.ga K "is_sign")) ["thing"] (sp_is_sign K) := by
  refine okX T.F_is_sign sc_is_sign len_is_sign (fun cdv A outer s H vs Q E hgu0 hr h => ⟨t_is_sign K, PSs.nox ?_, pure_is_sign vs H Q E h⟩)
  exact (pss_one (ps_ret (pe_and (pe_callX (ok_is_whole T) (fun z => nomatch z) hr rfl T.g_is_whole T.F_is_whole.kp (bd_is_whole T) .nil pass0 (pa_cons (pv 0) pa_nil)) (pe_one (pe_chain uo_le uo_le pe_int (pv 0) (pe_globI rfl T.c_MOST_SIGN))))))
theorem sc_are_signs : FnScope ["thing", "fewest", "most", "sign"] ["thing", "fewest", "most"] (defScope s_are_signs) := ⟨rfl, rfl, rfl, by decide +kernel, rfl, by decide +kernel, by decide +kernel⟩
theorem bd_are_signs (T : Txt K mg) : Binds K (fdOf K (He.ga K "are_signs")) ["thing", "fewest", "most"] [] := T.F_are_signs.bindsN fun _ _ _ _ _ _ us hl => match us, hl with | [_, _, _], _ => rfl
theorem ok_are_signs (T : Txt K mg) : FnX false P w K mg base CX0 3 (He.ga K "are_signs") (fdOf K (He.ga K "are_signs")) ["thing", "fewest", "most"] (sp_are_signs K) := by
  refine okX T.F_are_signs sc_are_signs len_are_signs (fun cdv A outer s H vs Q E hgu0 hr h => ⟨t_are_signs K, PSs.nox ?_, pure_are_signs vs H Q E h⟩)
  exact (pss_cons (ps_if (PW.pt (pw_or (pt_not (pt_val (pe_callB call_isi (by rfl) T.b_isinstance (by decide +kernel) (pa_cons (pv 0) (pa_cons (pe_bltn (by rfl) T.b_list (by decide +kernel) rfl) pa_nil))))) (pw_or1 (pt_not (pt_chain uo_le uo_le (pv 1) (pe_callB cr_len (by rfl) T.b_len (by decide +kernel) (pa_cons (pv 0) pa_nil)) (pv 2)))))) (pss_one (ps_ret pe_bl)) pss_nil)
      (pss_cons (ps_for PassesOwn.never rfl (pi_list (pv 0)) (pg_name (i := 3) sc_are_signs.nd rfl (by first | exact Or.inl rfl | exact Or.inr rfl)) (pss_one (ps_if (pt_not (pt_val (pe_callX (ok_is_sign T) (fun z => nomatch z) hr rfl T.g_is_sign T.F_is_sign.kp (bd_is_sign T) .nil pass0 (pa_cons (pv 3) pa_nil)))) (pss_one (ps_ret pe_bl)) pss_nil)))
      (pss_one (ps_ret pe_bl))))
theorem sc_is_content : FnScope ["thing"] ["thing"] (defScope s_is_content) := ⟨rfl, rfl, rfl, by decide +kernel, rfl, by decide +kernel, by decide +kernel⟩
theorem bd_is_content (T : Txt K mg) : Binds K (fdOf K (He.ga K "is_content")) ["thing"] [] := T.F_is_content.bindsN fun _ _ _ _ _ _ us hl => match us, hl with | [_], _ => rfl
theorem ok_is_content (T : Txt K mg) : FnX false P w K mg base CX0 4 (He.ga K "is_content") (fdOf K (He.ga K "is_content")) ["thing"] (sp_is_content K) := by
  refine okX T.F_is_content sc_is_content len_is_content (fun cdv A outer s H vs Q E hgu0 hr h => ⟨t_is_content K, PSs.nox ?_, pure_is_content vs H Q E h⟩)
  exact (pss_one (ps_ret (pe_callX (ok_are_signs T) (fun z => nomatch z) hr rfl T.g_are_signs T.F_are_signs.kp (bd_are_signs T) .nil pass0 (pa_cons (pv 0) (pa_cons pe_int (pa_cons (pe_globI rfl T.c_MOST_CONTENT) pa_nil))))))
theorem sc_cut : FnScope ["content", "mark", "most", "found", "ended", "sign"] ["content", "mark", "most"] (defScope s_cut) := ⟨rfl, rfl, rfl, by decide +kernel, rfl, by decide +kernel, by decide +kernel⟩
theorem bd0_cut (T : Txt K mg) : ∃ ds, Vals [.int 7, .int 8] ds ∧ Binds K (fdOf K (He.ga K "cut")) ["content", "mark", "most"] ds := T.F_cut.binds0 1 (by decide) rfl fun _ _ _ _ _ _ us ks h1 h2 => match us, ks, h1, h2 with | [_], [_, _], _, _ => ⟨_, _, _, _, _, _, rfl, rfl, _, _, _, _, _, _, rfl, rfl, rfl⟩
theorem kb_cut_mark_most (T : Txt K mg) : ∃ mv : List Value, KBn K (fdOf K (He.ga K "cut")) ["content", "mark", "most"] 1 ["mark", "most"] (fun us ws => (fun us mv ws => us ++ (ws ++ mv)) us mv ws) (fun vs zs => vs ++ (zs ++ [])) :=
  T.F_cut.kbinds0 1 ["mark", "most"] [] (fun us mv ws => us ++ (ws ++ mv)) (by decide) (by simp) (fun r1 r2 r3 => r1.append (r3.append r2)) (fun _ _ _ _ _ _ us mv ws h1 h2 h3 => match us, mv, ws, h1, h2, h3 with | [_], [], [_, _], _, _, _ => rfl)
theorem ok_cut (T : Txt K mg) : FnX false P w K mg base CX0 5 (He.ga K "cut") (fdOf K (He.ga K "cut")) ["content", "mark", "most"] (sp_cut K) := by
  refine okX T.F_cut sc_cut len_cut (fun cdv A outer s H vs Q E hgu0 hr h => ⟨t_cut K, PSs.nox ?_, pure_cut vs H Q E h⟩)
  exact (pss_cons (ps_if (pt_not (pt_val (pe_callX (ok_is_content T) (fun z => nomatch z) hr rfl T.g_is_content T.F_is_content.kp (bd_is_content T) .nil pass0 (pa_cons (pv 0) pa_nil)))) (pss_one ps_never) pss_nil)
      (pss_cons (ps_expr (pe_callX (ok_need_numbers T) (fun z => nomatch z) (hr.mono (by decide)) rfl T.g_need_numbers T.F_need_numbers.kp (bd_need_numbers T) .nil pass0 (pa_cons (pv 1) (pa_cons (pv 2) pa_nil))))
      (pss_cons (ps_set (i := 3) sc_cut.nd rfl (by first | exact Or.inl rfl | exact Or.inr rfl) (pe_lst pa_nil))
      (pss_cons (ps_set (i := 4) sc_cut.nd rfl (by first | exact Or.inl rfl | exact Or.inr rfl) pe_bl)
      (pss_cons (ps_for PassesOwn.never rfl (pi_list (pv 0)) (pg_name (i := 5) sc_cut.nd rfl (by first | exact Or.inl rfl | exact Or.inr rfl)) (pss_cons (ps_if (pt_val (pv 4)) (pss_one (ps_expr (pe_bm PySem.F.plainAttrs_list PySem.F.slot_list_append PySem.F.type_list_append mt_append (pv 3) (pa_cons (pe_lst pa_nil) pa_nil)))) pss_nil)
      (pss_cons (ps_expr (pe_bm PySem.F.plainAttrs_list PySem.F.slot_list_append PySem.F.type_list_append mt_append (pe_ix ix_any (pv 3) (pe_un un_neg pe_int) (fun _ _ => rfl)) (pa_cons (pv 5) pa_nil)))
      (pss_one (ps_set (i := 4) sc_cut.nd rfl (by first | exact Or.inl rfl | exact Or.inr rfl) (pe_or (pe_cmpR (uo_eq hr.units) (pe_op uo_mod (pv 5) (pv 1)) pe_int (nomark _)) (pe_one (pe_cmpR (uo_eq hr.units) (pe_callB cr_len (by rfl) T.b_len (by decide +kernel) (pa_cons (pe_ix ix_any (pv 3) (pe_un un_neg pe_int) (fun _ _ => rfl)) pa_nil)) (pv 2) (nomark _)))))))))
      (pss_one (ps_ret (pv 3))))))))
theorem sc_l_ended : FnScope ["_law_pieces", "_law_whole", "_law_many", "_law_piece", "_law_found", "_law_at"] ["_law_pieces", "_law_whole", "_law_many"] (defScope s_l_ended) := ⟨rfl, rfl, rfl, by decide +kernel, rfl, by decide +kernel, by decide +kernel⟩
theorem bd_l_ended (T : Txt K mg) : Binds K (fdOf K (He.ga K "_law_ended")) ["_law_pieces", "_law_whole", "_law_many"] [] := T.F_l_ended.bindsN fun _ _ _ _ _ _ us hl => match us, hl with | [_, _, _], _ => rfl
theorem ok_l_ended (T : Txt K mg) : FnX false P w K mg base CX0 1 (He.ga K "_law_ended") (fdOf K (He.ga K "_law_ended")) ["_law_pieces", "_law_whole", "_law_many"] (sp_l_ended K) := by
  refine okX T.F_l_ended sc_l_ended len_l_ended (fun cdv A outer s H vs Q E hgu0 hr h => ⟨t_l_ended K, PSs.nox ?_, pure_l_ended vs H Q E h⟩)
  exact (pss_cons (ps_par (by rfl) sc_l_ended.nd rfl rfl (by decide) rfl rfl (pa_cons (pe_lst pa_nil) (pa_cons pe_int pa_nil)) (by rfl))
      (pss_cons (ps_for PassesOwn.never rfl (pi_list (pv 0)) (pg_name (i := 3) sc_l_ended.nd rfl (by first | exact Or.inl rfl | exact Or.inr rfl)) (pss_cons (ps_aug (i := 5) sc_l_ended.nd rfl (by first | exact Or.inl rfl | exact Or.inr rfl) (pe_callB cr_len (by rfl) T.b_len (by decide +kernel) (pa_cons (pv 3) pa_nil)) (ip_of io_add))
      (pss_one (ps_if (PW.pt (pw_and (pt_cmpR uo_le (pv 5) (pv 2) (nomark _)) (pw_and1 (pt_cmpR uo_lt (pv 5) (pv 1) (nomark _))))) (pss_one (ps_expr (pe_bm PySem.F.plainAttrs_list PySem.F.slot_list_append PySem.F.type_list_append mt_append (pv 4) (pa_cons (pv 3) pa_nil)))) pss_nil))))
      (pss_one (ps_ret (pv 4)))))
theorem sc_l_alike : FnScope ["_law_found", "_law_due"] ["_law_found", "_law_due"] (defScope s_l_alike) := ⟨rfl, rfl, rfl, by decide +kernel, rfl, by decide +kernel, by decide +kernel⟩
theorem bd_l_alike (T : Txt K mg) : Binds K (fdOf K (He.ga K "_law_alike")) ["_law_found", "_law_due"] [] := T.F_l_alike.bindsN fun _ _ _ _ _ _ us hl => match us, hl with | [_, _], _ => rfl
theorem ok_l_alike (T : Txt K mg) : FnX true P w K mg base CX0 1 (He.ga K "_law_alike") (fdOf K (He.ga K "_law_alike")) ["_law_found", "_law_due"] (sp_l_alike K) := by
  refine okX T.F_l_alike sc_l_alike len_l_alike (fun cdv A outer s H vs Q E hgu0 hr h => ⟨t_l_alike K, PSs.nox ?_, pure_l_alike vs H Q E h⟩)
  have hgu : (A.deeper (envOfC "_law_alike" (defScope s_l_alike) s.heap.objs.size (He.ga K "_law_alike") cdv)).guards = some [] := hgu0 rfl
  exact (pss_one (ps_ret (pe_and (pe_cmpR (uo_eq hr.units) (pv 0) (pv 1) (nomark _)) (pe_one (pe_cmpR (uo_eq hr.units) (pe_callB (cr_repr hgu hr.units) (by rfl) T.b_repr (by decide +kernel) (pa_cons (pv 0) pa_nil)) (pe_callB (cr_repr hgu hr.units) (by rfl) T.b_repr (by decide +kernel) (pa_cons (pv 1) pa_nil)) (nomark _))))))
theorem sc_l_joined : FnScope ["_law_pieces", "_law_found", "_law_piece"] ["_law_pieces"] (defScope s_l_joined) := ⟨rfl, rfl, rfl, by decide +kernel, rfl, by decide +kernel, by decide +kernel⟩
theorem bd_l_joined (T : Txt K mg) : Binds K (fdOf K (He.ga K "_law_joined")) ["_law_pieces"] [] := T.F_l_joined.bindsN fun _ _ _ _ _ _ us hl => match us, hl with | [_], _ => rfl
theorem ok_l_joined (T : Txt K mg) : FnX false P w K mg base CX0 1 (He.ga K "_law_joined") (fdOf K (He.ga K "_law_joined")) ["_law_pieces"] (sp_l_joined K) := by
  refine okX T.F_l_joined sc_l_joined len_l_joined (fun cdv A outer s H vs Q E hgu0 hr h => ⟨t_l_joined K, PSs.nox ?_, pure_l_joined vs H Q E h⟩)
  exact (pss_cons (ps_set (i := 1) sc_l_joined.nd rfl (by first | exact Or.inl rfl | exact Or.inr rfl) (pe_lst pa_nil))
      (pss_cons (ps_for PassesOwn.never rfl (pi_list (pv 0)) (pg_name (i := 2) sc_l_joined.nd rfl (by first | exact Or.inl rfl | exact Or.inr rfl)) (pss_one (ps_set (i := 1) sc_l_joined.nd rfl (by first | exact Or.inl rfl | exact Or.inr rfl) (pe_op uo_add (pv 1) (pv 2)))))
      (pss_one (ps_ret (pv 1)))))
theorem sc_law : FnScope ["_law_script", "_law_bag_here", "_law_by", "_law_top", "_law_turn", "_law_content_here", "_law_both", "_law_told", "_law_k", "_law_places", "_law_front", "_law_old", "_law_new", "_law_end", "_law_heads", "_law_rest", "_law_pieces", "_law_one"] ["_law_script"] (defScope s_law) := ⟨rfl, rfl, rfl, by decide +kernel, rfl, by decide +kernel, by decide +kernel⟩
theorem bd_law (T : Txt K mg) : Binds K (fdOf K (He.ga K "law")) ["_law_script"] [] := T.F_law.bindsN fun _ _ _ _ _ _ us hl => match us, hl with | [_], _ => rfl
theorem ok_law (T : Txt K mg) : FnX true P w K mg base CX0 6 (He.ga K "law") (fdOf K (He.ga K "law")) ["_law_script"] (sp_law K) := by
  refine okX T.F_law sc_law len_law (fun cdv A outer s H vs Q E hgu0 hr h => ⟨t_law K, PSs.nox ?_, pure_law vs H Q E h⟩)
  have hgu : (A.deeper (envOfC "law" (defScope s_law) s.heap.objs.size (He.ga K "law") cdv)).guards = some [] := hgu0 rfl
  obtain ⟨mv_kb_cut_mark_most, kb_cut_mark_most⟩ := kb_cut_mark_most T
  exact (pss_cons (ps_set (i := 1) sc_law.nd rfl (by first | exact Or.inl rfl | exact Or.inr rfl) (pe_callX (ok_l_bag T) (fun z => nomatch z) (hr.mono (by decide)) rfl T.g_l_bag T.F_l_bag.kp (bd_l_bag T) .nil pass0 (pa_cons (pv 0) pa_nil)))
      (pss_cons (ps_set (i := 2) sc_law.nd rfl (by first | exact Or.inl rfl | exact Or.inr rfl) (pe_ix ix_any (pe_lst (pa_cons pe_int (pa_cons pe_int (pa_cons pe_int (pa_cons pe_int (pa_cons (pe_op uo_add pe_int (pe_callX (ok_l_take T) (fun z => nomatch z) (hr.mono (by decide)) rfl T.g_l_take T.F_l_take.kp (bd_l_take T) .nil pass0 (pa_cons (pv 1) (pa_cons pe_int pa_nil)))) pa_nil)))))) (pe_callX (ok_l_take T) (fun z => nomatch z) (hr.mono (by decide)) rfl T.g_l_take T.F_l_take.kp (bd_l_take T) .nil pass0 (pa_cons (pv 1) (pa_cons pe_int pa_nil))) (fun _ _ => rfl)))
      (pss_cons (ps_set (i := 3) sc_law.nd rfl (by first | exact Or.inl rfl | exact Or.inr rfl) (pe_ix ix_any (pe_lst (pa_cons pe_int (pa_cons pe_int (pa_cons pe_int (pa_cons (pe_op uo_add pe_int (pe_callX (ok_l_take T) (fun z => nomatch z) (hr.mono (by decide)) rfl T.g_l_take T.F_l_take.kp (bd_l_take T) .nil pass0 (pa_cons (pv 1) (pa_cons pe_int pa_nil)))) pa_nil))))) (pe_callX (ok_l_take T) (fun z => nomatch z) (hr.mono (by decide)) rfl T.g_l_take T.F_l_take.kp (bd_l_take T) .nil pass0 (pa_cons (pv 1) (pa_cons pe_int pa_nil))) (fun _ _ => rfl)))
      (pss_cons (ps_for PassesOwn.never rfl (pi_range1 (by rfl) T.b_range (pa_cons pe_int pa_nil)) (pg_name (i := 4) sc_law.nd rfl (by first | exact Or.inl rfl | exact Or.inr rfl)) (pss_cons (ps_set (i := 5) sc_law.nd rfl (by first | exact Or.inl rfl | exact Or.inr rfl) (pe_callX (ok_l_content T) (fun z => nomatch z) (hr.mono (by decide)) rfl T.g_l_content T.F_l_content.kp (bd_l_content T) .nil pass0 (pa_cons (pv 1) (pa_cons (pv 2) (pa_cons pe_int pa_nil)))))
      (pss_cons (ps_asg (pe_callX (ok_l_changed T) (fun z => nomatch z) (hr.mono (by decide)) rfl T.g_l_changed T.F_l_changed.kp (bd_l_changed T) .nil pass0 (pa_cons (pv 1) (pa_cons (pv 5) (pa_cons (pv 2) pa_nil)))) (pg_tup rfl (pgs_cons (pg_name (i := 10) sc_law.nd rfl (by first | exact Or.inl rfl | exact Or.inr rfl)) (pgs_cons (pg_name (i := 11) sc_law.nd rfl (by first | exact Or.inl rfl | exact Or.inr rfl)) (pgs_cons (pg_name (i := 12) sc_law.nd rfl (by first | exact Or.inl rfl | exact Or.inr rfl)) (pgs_cons (pg_name (i := 13) sc_law.nd rfl (by first | exact Or.inl rfl | exact Or.inr rfl)) pgs_nil))))))
      (pss_cons (ps_set (i := 6) sc_law.nd rfl (by first | exact Or.inl rfl | exact Or.inr rfl) (pe_lst (pa_cons (pe_op uo_add (pe_op uo_add (pv 10) (pv 11)) (pv 13)) (pa_cons (pe_op uo_add (pe_op uo_add (pv 10) (pv 12)) (pv 13)) pa_nil))))
      (pss_cons (ps_setLc (i := 7) (own := [("_law_one", 17)]) (g := (gName 17)) (tt := tYes) rfl sc_law.nd rfl rfl (sw_true rfl rfl rfl (by decide +kernel)) (pi_list (pv 6)) (blkOk_by (own := [("_law_one", 17)]) (N := ["_law_script", "_law_bag_here", "_law_by", "_law_top", "_law_turn", "_law_content_here", "_law_both", "_law_told", "_law_k", "_law_places", "_law_front", "_law_old", "_law_new", "_law_end", "_law_heads", "_law_rest", "_law_pieces", "_law_one"]) (sc := defScope s_law) (by decide +kernel)) (fun _ _ _ _ _ => (pg_name (i := 17) sc_law.nd rfl (by first | exact Or.inl rfl | exact Or.inr rfl))) (fun _ _ _ _ _ => pts_nil) (fun _ _ _ _ _ => (pe_callN (ks := ["mark", "most"]) (ok_cut T).ok hr rfl T.g_cut T.F_cut.kp kb_cut_mark_most pass0 (pa_cons (pe_callTy cr_list (by rfl) T.b_list (by decide +kernel) (pa_cons (pv 17) pa_nil)) pa_nil) (pk_cons (pv 2) (pk_cons (pv 3) pk_nil)))))
      (pss_cons (ps_for PassesOwn.never rfl (pi_range1 (by rfl) T.b_range (pa_cons pe_int pa_nil)) (pg_name (i := 8) sc_law.nd rfl (by first | exact Or.inl rfl | exact Or.inr rfl)) (pss_cons (ps_if (PW.pt (pw_or (pt_not (pt_val (pe_callX (ok_l_alike T) (fun _ => hgu) (hr.mono (by decide)) rfl T.g_l_alike T.F_l_alike.kp (bd_l_alike T) .nil pass0 (pa_cons (pe_callX (ok_l_joined T) (fun z => nomatch z) (hr.mono (by decide)) rfl T.g_l_joined T.F_l_joined.kp (bd_l_joined T) .nil pass0 (pa_cons (pe_ix ix_any (pv 7) (pv 8) (fun _ _ => rfl)) pa_nil)) (pa_cons (pe_ix ix_any (pv 6) (pv 8) (fun _ _ => rfl)) pa_nil))))) (pw_or1 (pt_cmpR (uo_in hr) (pe_lst pa_nil) (pe_ix ix_any (pv 7) (pv 8) (fun _ _ => rfl)) (by rfl))))) (pss_one (ps_ret pe_bl)) pss_nil)
      (pss_cons (ps_set (i := 14) sc_law.nd rfl (by first | exact Or.inl rfl | exact Or.inr rfl) (pe_callX (ok_l_ended T) (fun z => nomatch z) (hr.mono (by decide)) rfl T.g_l_ended T.F_l_ended.kp (bd_l_ended T) .nil pass0 (pa_cons (pe_ix ix_any (pv 7) (pv 8) (fun _ _ => rfl)) (pa_cons (pe_callB cr_len (by rfl) T.b_len (by decide +kernel) (pa_cons (pe_ix ix_any (pv 6) (pv 8) (fun _ _ => rfl)) pa_nil)) (pa_cons (pe_callB cr_len (by rfl) T.b_len (by decide +kernel) (pa_cons (pv 10) pa_nil)) pa_nil)))))
      (pss_one (ps_if (pt_not (pt_val (pe_callX (ok_l_alike T) (fun _ => hgu) (hr.mono (by decide)) rfl T.g_l_alike T.F_l_alike.kp (bd_l_alike T) .nil pass0 (pa_cons (pe_slice sl_any (pe_ix ix_any (pv 7) (pe_op uo_sub pe_int (pv 8)) (fun _ _ => rfl)) po_none (po_some (pe_callB cr_len (by rfl) T.b_len (by decide +kernel) (pa_cons (pv 14) pa_nil)))) (pa_cons (pv 14) pa_nil))))) (pss_one (ps_ret pe_bl)) pss_nil)))))
      (pss_cons (ps_setLc (i := 9) (own := [("_law_k", 8)]) (g := (gName 8)) (tt := (tTest (tOp (uEq K) (tOp uMod (tOp (uIx K) (tVar 13) (tVar 8)) (tVar 2)) (tC (.int 0))))) rfl sc_law.nd rfl rfl (sw_true rfl rfl rfl (by decide +kernel)) (pi_range1 (by rfl) T.b_range (pa_cons (pe_callB cr_len (by rfl) T.b_len (by decide +kernel) (pa_cons (pv 13) pa_nil)) pa_nil)) (blkOk_by (own := [("_law_k", 8)]) (N := ["_law_script", "_law_bag_here", "_law_by", "_law_top", "_law_turn", "_law_content_here", "_law_both", "_law_told", "_law_k", "_law_places", "_law_front", "_law_old", "_law_new", "_law_end", "_law_heads", "_law_rest", "_law_pieces", "_law_one"]) (sc := defScope s_law) (by decide +kernel)) (fun _ _ _ _ _ => (pg_name (i := 8) sc_law.nd rfl (by first | exact Or.inl rfl | exact Or.inr rfl))) (fun _ _ _ _ _ => (pts_one (pt_cmpR (uo_eq hr.units) (pe_op uo_mod (pe_ix ix_any (pv 13) (pv 8) (fun _ _ => rfl)) (pv 2)) pe_int (nomark _)))) (fun _ _ _ _ _ => (pv 8)))
      (pss_one (ps_if (pt_cmpR (uo_ne hr.units) (pv 9) (pe_lst pa_nil) (nomark _)) (pss_cons (ps_set (i := 15) sc_law.nd rfl (by first | exact Or.inl rfl | exact Or.inr rfl) (pe_callN (ks := ["mark", "most"]) (ok_cut T).ok hr rfl T.g_cut T.F_cut.kp kb_cut_mark_most pass0 (pa_cons (pe_slice sl_any (pv 13) (po_some (pe_op uo_add (pe_ix ix_any (pv 9) pe_int (fun _ _ => rfl)) pe_int)) po_none) pa_nil) (pk_cons (pv 2) (pk_cons (pv 3) pk_nil))))
      (pss_one (ps_for PassesOwn.never rfl (pi_list (pv 7)) (pg_name (i := 16) sc_law.nd rfl (by first | exact Or.inl rfl | exact Or.inr rfl)) (pss_one (ps_if (pt_not (pt_val (pe_callX (ok_l_alike T) (fun _ => hgu) (hr.mono (by decide)) rfl T.g_l_alike T.F_l_alike.kp (bd_l_alike T) .nil pass0 (pa_cons (pe_slice sl_any (pv 16) (po_some (pe_op uo_sub (pe_callB cr_len (by rfl) T.b_len (by decide +kernel) (pa_cons (pv 16) pa_nil)) (pe_callB cr_len (by rfl) T.b_len (by decide +kernel) (pa_cons (pv 15) pa_nil)))) po_none) (pa_cons (pv 15) pa_nil))))) (pss_one (ps_ret pe_bl)) pss_nil))))) pss_nil)))))))))
      (pss_one (ps_ret pe_bl))))))
end
def d_l_bag : He.DefD := ⟨("_law_bag", none), "_law_bag", "_law_bag", defArgs s_l_bag, defBody s_l_bag, defScope s_l_bag, [], []⟩
def d_l_take : He.DefD := ⟨("_law_take", none), "_law_take", "_law_take", defArgs s_l_take, defBody s_l_take, defScope s_l_take, [], []⟩
def d_l_content : He.DefD := ⟨("_law_content", none), "_law_content", "_law_content", defArgs s_l_content, defBody s_l_content, defScope s_l_content, [], []⟩
def d_l_changed : He.DefD := ⟨("_law_changed", none), "_law_changed", "_law_changed", defArgs s_l_changed, defBody s_l_changed, defScope s_l_changed, [], []⟩
def d_is_whole : He.DefD := ⟨("is_whole", none), "is_whole", "is_whole", defArgs s_is_whole, defBody s_is_whole, defScope s_is_whole, [], []⟩
def d_is_mark : He.DefD := ⟨("is_mark", none), "is_mark", "is_mark", defArgs s_is_mark, defBody s_is_mark, defScope s_is_mark, [], []⟩
def d_is_most : He.DefD := ⟨("is_most", none), "is_most", "is_most", defArgs s_is_most, defBody s_is_most, defScope s_is_most, [], []⟩
def d_need_numbers : He.DefD := ⟨("need_numbers", none), "need_numbers", "need_numbers", defArgs s_need_numbers, defBody s_need_numbers, defScope s_need_numbers, [], []⟩
def d_is_sign : He.DefD := ⟨("is_sign", none), "is_sign", "is_sign", defArgs s_is_sign, defBody s_is_sign, defScope s_is_sign, [], []⟩
def d_are_signs : He.DefD := ⟨("are_signs", none), "are_signs", "are_signs", defArgs s_are_signs, defBody s_are_signs, defScope s_are_signs, [], []⟩
def d_is_content : He.DefD := ⟨("is_content", none), "is_content", "is_content", defArgs s_is_content, defBody s_is_content, defScope s_is_content, [], []⟩
def d_cut : He.DefD := ⟨("cut", none), "cut", "cut", defArgs s_cut, defBody s_cut, defScope s_cut, [], [("mark", .int 7), ("most", .int 8)]⟩
def d_l_ended : He.DefD := ⟨("_law_ended", none), "_law_ended", "_law_ended", defArgs s_l_ended, defBody s_l_ended, defScope s_l_ended, [], []⟩
def d_l_alike : He.DefD := ⟨("_law_alike", none), "_law_alike", "_law_alike", defArgs s_l_alike, defBody s_l_alike, defScope s_l_alike, [], []⟩
def d_l_joined : He.DefD := ⟨("_law_joined", none), "_law_joined", "_law_joined", defArgs s_l_joined, defBody s_l_joined, defScope s_l_joined, [], []⟩
def d_law : He.DefD := ⟨("law", none), "law", "law", defArgs s_law, defBody s_law, defScope s_law, [], []⟩
def fn : List He.DefD := ([d_l_bag, d_l_take, d_l_content, d_l_changed, d_is_whole, d_is_mark, d_is_most, d_need_numbers, d_is_sign, d_are_signs, d_is_content, d_cut, d_l_ended, d_l_alike, d_l_joined, d_law] : List He.DefD)
def fa : List He.Fa := ([.glo "_law_bag", .glo "_law_take", .glo "_law_content", .glo "_law_changed", .glo "is_whole", .glo "is_mark", .glo "is_most", .glo "need_numbers", .glo "is_sign", .glo "are_signs", .glo "is_content", .glo "cut", .glo "_law_ended", .glo "_law_alike", .glo "_law_joined", .glo "law", .int "LEAST_MARK" 2, .int "MOST_MARK" 50, .int "MOST_PIECE" 16, .int "MOST_SIGN" 999, .int "MOST_CONTENT" 48, .int "MARK" 7, .int "MOST" 8, .free "abs", .free "len", .free "range", .free "isinstance", .free "int", .free "bool", .free "list"] : List He.Fa) ++ ([.free "repr"] : List He.Fa)
def names : List Str := (["is_whole", "is_sign", "are_signs", "is_content", "is_mark", "is_most", "need_numbers", "cut", "_law_bag", "_law_take", "_law_alike", "_law_copy", "_law_content", "_law_changed", "_law_ended", "_law_joined", "StoreError", "Wrong", "MOST_SIGN", "MOST_CONTENT", "MOST_PIECE", "MARK", "MOST", "LEAST_MARK", "MOST_MARK"] : List Str)
abbrev R : PySem.W.OpenRow := PySem.W.OpenLaw.row PySem.Challenge.rw_restorechain_k13_whole_tails_and_heads
abbrev hk : PySem.W.Hook := He.hookD 5 fa fn
def ob (s : PySem.W.SharedT) : He.AlD := He.obsDG 5 fa fn (HandSHeadRun.getT s)
theorem ob_eq (s : PySem.W.SharedT) : ob s = hk.obs s.abs := He.obsDG_eq (HandSHeadRun.getT_eq s)
theorem run (w : World) : HandSHeadRun.RunEq R (PySem.W.view R.prog [29]) hk ob 4000 names w := by
  intro os
  kernel_rfl
theorem txt {K : PySem.W.Frag} {h : Heap} {mg : Str → Option Value} (X : K.In h) (G : h.Ns mainGlobals mg) (c : He.SaysD fa fn K) : Txt K mg where
  F_l_bag := fd_of (c.def_ 0 (d := d_l_bag) rfl)
  g_l_bag := He.glo_ok X G (c.fact 0 (f := .glo "_law_bag") rfl)
  F_l_take := fd_of (c.def_ 1 (d := d_l_take) rfl)
  g_l_take := He.glo_ok X G (c.fact 1 (f := .glo "_law_take") rfl)
  F_l_content := fd_of (c.def_ 2 (d := d_l_content) rfl)
  g_l_content := He.glo_ok X G (c.fact 2 (f := .glo "_law_content") rfl)
  F_l_changed := fd_of (c.def_ 3 (d := d_l_changed) rfl)
  g_l_changed := He.glo_ok X G (c.fact 3 (f := .glo "_law_changed") rfl)
  F_is_whole := fd_of (c.def_ 4 (d := d_is_whole) rfl)
  g_is_whole := He.glo_ok X G (c.fact 4 (f := .glo "is_whole") rfl)
  F_is_mark := fd_of (c.def_ 5 (d := d_is_mark) rfl)
  g_is_mark := He.glo_ok X G (c.fact 5 (f := .glo "is_mark") rfl)
  F_is_most := fd_of (c.def_ 6 (d := d_is_most) rfl)
  g_is_most := He.glo_ok X G (c.fact 6 (f := .glo "is_most") rfl)
  F_need_numbers := fd_of (c.def_ 7 (d := d_need_numbers) rfl)
  g_need_numbers := He.glo_ok X G (c.fact 7 (f := .glo "need_numbers") rfl)
  F_is_sign := fd_of (c.def_ 8 (d := d_is_sign) rfl)
  g_is_sign := He.glo_ok X G (c.fact 8 (f := .glo "is_sign") rfl)
  F_are_signs := fd_of (c.def_ 9 (d := d_are_signs) rfl)
  g_are_signs := He.glo_ok X G (c.fact 9 (f := .glo "are_signs") rfl)
  F_is_content := fd_of (c.def_ 10 (d := d_is_content) rfl)
  g_is_content := He.glo_ok X G (c.fact 10 (f := .glo "is_content") rfl)
  F_cut := fd_of (c.def_ 11 (d := d_cut) rfl)
  g_cut := He.glo_ok X G (c.fact 11 (f := .glo "cut") rfl)
  F_l_ended := fd_of (c.def_ 12 (d := d_l_ended) rfl)
  g_l_ended := He.glo_ok X G (c.fact 12 (f := .glo "_law_ended") rfl)
  F_l_alike := fd_of (c.def_ 13 (d := d_l_alike) rfl)
  g_l_alike := He.glo_ok X G (c.fact 13 (f := .glo "_law_alike") rfl)
  F_l_joined := fd_of (c.def_ 14 (d := d_l_joined) rfl)
  g_l_joined := He.glo_ok X G (c.fact 14 (f := .glo "_law_joined") rfl)
  F_law := fd_of (c.def_ 15 (d := d_law) rfl)
  g_law := He.glo_ok X G (c.fact 15 (f := .glo "law") rfl)
  c_LEAST_MARK := He.int_ok X G (c.fact 16 (f := .int "LEAST_MARK" 2) rfl)
  c_MOST_MARK := He.int_ok X G (c.fact 17 (f := .int "MOST_MARK" 50) rfl)
  c_MOST_PIECE := He.int_ok X G (c.fact 18 (f := .int "MOST_PIECE" 16) rfl)
  c_MOST_SIGN := He.int_ok X G (c.fact 19 (f := .int "MOST_SIGN" 999) rfl)
  c_MOST_CONTENT := He.int_ok X G (c.fact 20 (f := .int "MOST_CONTENT" 48) rfl)
  c_MARK := He.int_ok X G (c.fact 21 (f := .int "MARK" 7) rfl)
  c_MOST := He.int_ok X G (c.fact 22 (f := .int "MOST" 8) rfl)
  b_abs := He.free_ok X G (c.fact 23 (f := .free "abs") rfl)
  b_len := He.free_ok X G (c.fact 24 (f := .free "len") rfl)
  b_range := He.free_ok X G (c.fact 25 (f := .free "range") rfl)
  b_isinstance := He.free_ok X G (c.fact 26 (f := .free "isinstance") rfl)
  b_int := He.free_ok X G (c.fact 27 (f := .free "int") rfl)
  b_bool := He.free_ok X G (c.fact 28 (f := .free "bool") rfl)
  b_list := He.free_ok X G (c.fact 29 (f := .free "list") rfl)
  b_repr := He.free_ok X G (c.fact 30 (f := .free "repr") rfl)
end RC
open PySem PySem.W PySem.Calls PyProof.Rows
set_option maxRecDepth 100000 in
set_option maxHeartbeats 0 in
theorem PySem.Challenge.cw_restorechain_k13_whole_tails_and_heads_holds : PySem.Challenge.rw_restorechain_k13_whole_tails_and_heads.Holds := by
  w_on; o_law
  refine HandSHeadRun.head_any (r := OpenLaw.row PySem.Challenge.rw_restorechain_k13_whole_tails_and_heads) (q := view (OpenLaw.row PySem.Challenge.rw_restorechain_k13_whole_tails_and_heads).prog [29]) (H := RC.hk) (ob := RC.ob) (M := 4000) (loose := RC.names)
    (d := HandSHeadRun.topDef (OpenLaw.row PySem.Challenge.rw_restorechain_k13_whole_tails_and_heads).prog 29) (kwd := []) RC.ob_eq (by kernel_rfl) (fun s => by kernel_rfl) RC.run
    (by kernel_rfl) (by kernel_rfl) (by kernel_rfl) (by rfl) (by first | assumption | decide +kernel) (by decide +kernel) ⟨rfl, rfl, rfl, rfl, rfl, by decide +kernel⟩ ?hw ?hc
  case hw => w_witness2
  case hc =>
    refine RC.walk_G (l := PySem.Challenge.rw_restorechain_k13_whole_tails_and_heads) (n := 63) (k := 6) (x := "_law_script") (CX := fun _ => L2.CX0) rfl (by decide) (by kernel_rfl) ⟨rfl, by decide, by decide⟩ ?F (fun _ _ _ _ _ z => z)
    intro w mg fa h Y G hmg0
    obtain ⟨K, KX, c⟩ := Y
    have hmg : mg ("law" : PySem.Str) = some (.ref fa) := by
      have e : (HandSHeadRun.topDef (OpenLaw.row PySem.Challenge.rw_restorechain_k13_whole_tails_and_heads).prog 29).name = ("law" : PySem.Str) := by kernel_rfl
      rw [← e]
      exact hmg0
    have T := RC.txt KX G c
    have e := hmg.symm.trans T.g_law
    cases e
    exact ⟨K, _, RC.sp_law K, KX, fun s v => L2.FunD.bindsA (ps := ["_law_script"]) T.F_law (fun _ _ _ _ _ _ us hl => match us, hl with | [_], _ => rfl) s [v] rfl,
      RC.law_start K, fun base _ _ => RC.ok_law T⟩
